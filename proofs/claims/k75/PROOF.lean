import PyProof.Rows.All
import Wide.All
import OpenK.AllK
import Wide.FinOn
import HandS.ForMost
import HandS.Flow
import HandS.Deep
import HandS.Codes
import HandS.Defaults
import HandS.HeadHook1
import HandS.HeadHook2
import HandS.OwnEq
import HandS.Star
import HandS.More
import HandS.IterVal
import KE.KOwnIter
import HandS.OwnIter
import HandS.Zip0
import PyProof.EnumMake
import PyProof.Draws
import HandS.GenBody
import HandS.GenYield
import PyProof.GenRules
import PyProof.ForAny
import HandS.GenList
import HandS.Property
import HandS.IsInst
import HandS.ClsMeth
import KE.KStateDown
import Lean
import HandS.Head0
import HandS.Head1
import HandS.Head2
import HandS.Words
import HandS.Ends
import HandS.HeadEnd
import PySem.Challenge.RW_weblocks_k75_whole_parts_and_followers
set_option Elab.async false
set_option linter.all false
set_option maxRecDepth 100000
set_option maxHeartbeats 4000000
set_option autoImplicit true
/-! GL1: a symbolic state over the hand layer: slots and a value stack by predicates over a base heap, owned parts of the heap apart. Own work. -/
namespace G
open PySem PySem.Spec PyProof.Rows L2

/-! ### predicates of values over a base heap -/
def Ex (H H' : Hp) : Prop := ∀ a o, H a = some o → H' a = some o
theorem Ex.refl (H : Hp) : Ex H H := fun _ _ h => h
theorem Ex.trans {H H1 H2 : Hp} (a : Ex H H1) (b : Ex H1 H2) : Ex H H2 := fun x o h => b x o (a x o h)
theorem Ex.new {H : Hp} {p : Addr} {o : HO} (h : H p = none) : Ex H (upd H p o) := fun a u e => by
  rw [upd_ne (ne_of_none e h)]; exact e

/-- what is true of a value over the base heap -/
structure R where
  p : Hp → V → Prop
  mono : ∀ {H H' : Hp} {v : V}, Ex H H' → p H v → p H' v
/-- what is true of an own part of the heap, over the base heap -/
structure Own where
  p : Hp → Hp → Prop
  mono : ∀ {B B' h : Hp}, Ex B B' → p B h → p B' h

def Dj (h g : Hp) : Prop := ∀ a, h a = none ∨ g a = none
theorem Dj.symm {h g : Hp} (d : Dj h g) : Dj g h := fun a => (d a).symm
abbrev Lk := Addr → Option Obj
def isD : HO → Bool
  | .dK _ => true
  | .dT _ => true
  | _ => false
/-- how an object of the base stands: a locked dict is frozen -/
def rdL (L : Lk) (a : Addr) (o : HO) : HO := match L a with
  | none => o
  | some od => .frz od o

def Apart (hs : List Hp) : Prop := ∀ (i j : Nat) (h g : Hp), i ≠ j → hs[i]? = some h → hs[j]? = some g → Dj h g
theorem Apart.cons {h : Hp} {hs : List Hp} (a : Apart hs) (d : ∀ g ∈ hs, Dj h g) : Apart (h :: hs) := fun i j x y hij hx hy => by
  cases i with
  | zero =>
    cases j with
    | zero => exact absurd rfl hij
    | succ j =>
      simp at hx hy; subst hx
      exact d y (List.mem_of_getElem? hy)
  | succ i =>
    cases j with
    | zero =>
      simp at hx hy; subst hy
      exact (d x (List.mem_of_getElem? hx)).symm
    | succ j =>
      simp at hx hy
      exact a i j x y (fun e => hij (by rw [e])) hx hy
theorem Apart.tail {h : Hp} {hs : List Hp} (a : Apart (h :: hs)) : Apart hs := fun i j x y hij hx hy => a (i + 1) (j + 1) x y (fun e => hij (Nat.succ.inj e)) (by simpa using hx) (by simpa using hy)
theorem Apart.head {h : Hp} {hs : List Hp} (a : Apart (h :: hs)) : ∀ g ∈ hs, Dj h g := fun g hg => by
  obtain ⟨j, hj⟩ := List.getElem?_of_mem hg
  exact a 0 (j + 1) h g (fun e => nomatch e) rfl (by simpa using hj)
structure Cur (L : Lk) (B : Hp) (hs : List Hp) (H : Hp) : Prop where
  base : ∀ a o, B a = some o → H a = some (rdL L a o)
  lk : ∀ a od, L a = some od → ∃ o, B a = some o ∧ isD o = true
  own : ∀ h ∈ hs, Ex h H
  dB : ∀ h ∈ hs, Dj B h
  dh : Apart hs
theorem Cur.free {L B hs H} (c : Cur L B hs H) {a : Addr} (e : H a = none) : B a = none := by
  cases q : B a with
  | none => rfl
  | some o => rw [c.base a o q] at e; cases e
theorem Cur.freeO {L B hs H} (c : Cur L B hs H) {a : Addr} (e : H a = none) : ∀ h ∈ hs, h a = none := fun h hh => by
  cases q : h a with
  | none => rfl
  | some o => rw [c.own h hh a o q] at e; cases e
theorem Cur.nolk {L B hs H} (c : Cur L B hs H) {a : Addr} {o : HO} (e : B a = some o) (d : isD o = false) : L a = none := by
  cases q : L a with
  | none => rfl
  | some od =>
    obtain ⟨u, e1, d1⟩ := c.lk a od q
    rw [e] at e1; cases e1; rw [d] at d1; cases d1
theorem Cur.nolkF {L B hs H} (c : Cur L B hs H) {a : Addr} (e : B a = none) : L a = none := by
  cases q : L a with
  | none => rfl
  | some od =>
    obtain ⟨u, e1, d1⟩ := c.lk a od q
    rw [e] at e1; cases e1
theorem Cur.exact {L B hs H} (c : Cur L B hs H) {a : Addr} {o : HO} (e : B a = some o) (d : isD o = false) : H a = some o := by
  have h := c.base a o e
  unfold rdL at h
  rw [c.nolk e d] at h
  exact h
theorem Cur.rd {L B hs H} (c : Cur L B hs H) {a : Addr} {o : HO} (e : B a = some o) : Rd H a o := by
  have h := c.base a o e
  unfold rdL at h
  cases q : L a with
  | none => rw [q] at h; exact .inl h
  | some od => rw [q] at h; exact .inr ⟨od, h⟩
theorem Cur.rdR {L B hs H} (c : Cur L B hs H) {a : Addr} {o : HO} (d : isD o = false) (e : Rd B a o) : Rd H a o := by
  rcases e with e | ⟨od, e⟩
  · exact c.rd e
  · exact .inr ⟨od, c.exact e rfl⟩
theorem Cur.sqL {K L B hs H} (c : Cur L B hs H) {a : Addr} {xs : List V} (e : SqL K B a xs) : SqL K H a xs :=
  e.elim (fun e => .inl (c.rdR rfl e)) fun e => .inr e
theorem Cur.sqT {K L B hs H} (c : Cur L B hs H) {a : Addr} {xs : List V} (e : SqT K B a xs) : SqT K H a xs :=
  e.elim (fun e => .inl (c.rdR rfl e)) fun e => .inr e
/-- a new object is put into the base -/
theorem Cur.newB {L B hs H} (c : Cur L B hs H) {p : Addr} {o : HO} (e : H p = none) : Cur L (upd B p o) hs (upd H p o) := by
  refine ⟨fun a u q => ?_, fun a od q => ?_, fun h hh a u q => ?_, fun h hh a => ?_, c.dh⟩
  · by_cases z : a = p
    · subst z
      rw [upd_same] at q
      rw [upd_same]
      cases q
      unfold rdL
      rw [c.nolkF (c.free e)]
    · rw [upd_ne z] at q
      rw [upd_ne z]
      exact c.base a u q
  · obtain ⟨u, e1, d1⟩ := c.lk a od q
    exact ⟨u, by rw [upd_ne (ne_of_none e1 (c.free e))]; exact e1, d1⟩
  · rw [upd_ne (ne_of_none q (c.freeO e h hh))]
    exact c.own h hh a u q
  · by_cases z : a = p
    · subst z; exact .inr (c.freeO e h hh)
    · rw [upd_ne z]; exact c.dB h hh a
def sgl (p : Addr) (o : HO) : Hp := fun a => if a = p then some o else none
theorem sgl_same {p : Addr} {o : HO} : sgl p o p = some o := by unfold sgl; rw [if_pos rfl]
theorem sgl_of {p a : Addr} {o u : HO} (e : sgl p o a = some u) : a = p ∧ u = o := by
  unfold sgl at e
  split at e
  · rename_i z; cases e; exact ⟨z, rfl⟩
  · cases e
theorem sgl_ne {p a : Addr} {o : HO} (h : a ≠ p) : sgl p o a = none := by unfold sgl; rw [if_neg h]
/-- .. or kept apart as an own part -/
theorem Cur.newO {L B hs H} (c : Cur L B hs H) {p : Addr} {o : HO} (e : H p = none) : Cur L B (sgl p o :: hs) (upd H p o) := by
  refine ⟨fun a u q => ?_, c.lk, fun h hh a u q => ?_, fun h hh a => ?_, Apart.cons c.dh fun h hh a => ?_⟩
  · rw [upd_ne (ne_of_none q (c.free e))]
    exact c.base a u q
  · rcases List.mem_cons.mp hh with rfl | hh
    · obtain ⟨rfl, rfl⟩ := sgl_of q
      exact upd_same
    · rw [upd_ne (ne_of_none q (c.freeO e h hh))]
      exact c.own h hh a u q
  · rcases List.mem_cons.mp hh with rfl | hh
    · by_cases z : a = p
      · subst z; exact .inl (c.free e)
      · exact .inr (sgl_ne z)
    · exact c.dB h hh a
  · by_cases z : a = p
    · subst z; exact .inr (c.freeO e h hh)
    · exact .inl (sgl_ne z)

/-! ### the state -/
def slotOk (B : Hp) : Option R → Option V → Prop
  | none, _ => True
  | some r, s => ∃ v, s = some v ∧ r.p B v
theorem slotOk.mono {B B' : Hp} (e : Ex B B') : ∀ {r : Option R} {s : Option V}, slotOk B r s → slotOk B' r s
  | none, _, _ => trivial
  | some r, _, ⟨v, h, q⟩ => ⟨v, h, r.mono e q⟩
theorem pmap {α β : Type} {F F' : α → β → Prop} : ∀ {l₁ : List α} {l₂ : List β}, Paired F l₁ l₂ → (∀ a b, F a b → F' a b) → Paired F' l₁ l₂
  | _, _, .nil, _ => .nil
  | _, _, .cons r t, f => .cons (f _ _ r) (pmap t f)
theorem pget {α β : Type} {F : α → β → Prop} : ∀ {l₁ : List α} {l₂ : List β} {i : Nat} {a : α}, Paired F l₁ l₂ → l₁[i]? = some a → ∃ b, l₂[i]? = some b ∧ F a b
  | _, _, _, _, .nil, e => by simp at e
  | _, _, 0, _, .cons r _, e => by simp at e; subst e; exact ⟨_, rfl, r⟩
  | _, _, i + 1, a, .cons _ t, e => by
    obtain ⟨b, h1, h2⟩ := pget (i := i) t (by simpa using e)
    exact ⟨b, by simpa using h1, h2⟩
theorem pset {α β : Type} {F : α → β → Prop} {a : α} {b : β} (r : F a b) : ∀ {l₁ : List α} {l₂ : List β} (i : Nat), Paired F l₁ l₂ → Paired F (l₁.set i a) (l₂.set i b)
  | _, _, _, .nil => .nil
  | _, _, 0, .cons _ t => .cons r t
  | _, _, i + 1, .cons q t => .cons q (pset r i t)
theorem papp {α β : Type} {F : α → β → Prop} : ∀ {l₁ m₁ : List α} {l₂ m₂ : List β}, Paired F l₁ l₂ → Paired F m₁ m₂ → Paired F (l₁ ++ m₁) (l₂ ++ m₂)
  | _, _, _, _, .nil, h => h
  | _, _, _, _, .cons r t, h => .cons r (papp t h)
theorem psplit {α β : Type} {F : α → β → Prop} : ∀ {l₁ m₁ : List α} {l₂ : List β}, Paired F (l₁ ++ m₁) l₂ → ∃ a b, l₂ = a ++ b ∧ Paired F l₁ a ∧ Paired F m₁ b
  | [], _, l₂, h => ⟨[], l₂, rfl, .nil, h⟩
  | _ :: l, _, _, .cons r t => by
    obtain ⟨a, b, e, h1, h2⟩ := psplit (l₁ := l) t
    exact ⟨_ :: a, b, by rw [e]; rfl, .cons r h1, h2⟩

/-- the state: slots rs, the stack of values st, the own parts os; L: the locked dicts -/
def S (L : Lk) (rs : List (Option R)) (st : List R) (os : List Own) (σ : L2.St) (vs : List V) (H : Hp) : Prop :=
  ∃ (B : Hp) (hs : List Hp), Cur L B hs H ∧ Paired (fun O h => Own.p O B h) os hs ∧ Paired (slotOk B) rs σ ∧ Paired (fun r v => R.p r B v) st vs
abbrev KK := L2.St → List V → Hp → Prop
/-- to go on with K from the state -/
def Gk (L : Lk) (rs : List (Option R)) (st : List R) (os : List Own) (K : KK) : Prop := ∀ σ vs H, S L rs st os σ vs H → K σ vs H

/-- expressions, tests, arguments, statements with what follows -/
def evk (te : TE) (K : KK) : KK := fun σ vs H => te σ H fun v H' => K σ (v :: vs) H'
def tk (tt : TT) (K : Bool → KK) : KK := fun σ vs H => tt σ H fun b H' => K b σ vs H'
def ak (ta : TA) (K : List V → KK) : KK := fun σ vs H => ta σ H fun us H' => K us σ vs H'
def stk (ts : TS) (D : Ends) : KK := fun σ _ H => ts D σ H
def nxk (D : Ends) : KK := fun σ _ H => D.nx σ H
def ctk (D : Ends) : KK := fun σ _ H => D.ct σ H
def bkk (D : Ends) : KK := fun σ _ H => D.bk σ H
def rtk (D : Ends) : KK := fun _ vs H => match vs with
  | v :: _ => D.rt v H
  | [] => False
def dropk (K : KK) : KK := fun σ vs H => match vs with
  | _ :: t => K σ t H
  | [] => False
def opk (r : R2) (K : KK) : KK := fun σ vs H => match vs with
  | y :: x :: t => r x y H fun z H' => K σ (z :: t) H'
  | _ => False
def unk (r : V → Hp → VK → Prop) (K : KK) : KK := fun σ vs H => match vs with
  | x :: t => r x H fun z H' => K σ (z :: t) H'
  | _ => False
def setk (i : Nat) (D : Ends) : KK := fun σ vs H => match vs with
  | v :: _ => D.nx (σ.set i (some v)) H
  | [] => False
def tgk (g : TG) (D : Ends) : KK := fun σ vs H => match vs with
  | v :: _ => g v σ H D.nx
  | [] => False
def tbk (K : Bool → KK) : KK := fun σ vs H => match vs with
  | x :: t => ∃ k, x = .bl k ∧ K k σ t H
  | [] => False
def ifk (t u : TS) (D : Ends) (b : Bool) : KK := fun σ _ H => if b = true then t D σ H else u D σ H
def andk (u : TT) (K : Bool → KK) (c : Bool) : KK := fun σ vs H => if c = true then u σ H (fun b H' => K b σ vs H') else K false σ vs H
def ork (u : TT) (K : Bool → KK) (c : Bool) : KK := fun σ vs H => if c = true then K true σ vs H else u σ H (fun b H' => K b σ vs H')
def Dn (u : TS) (D : Ends) : Ends := { D with nx := u D }

section
variable {L : Lk} {rs : List (Option R)} {st : List R} {os : List Own} {K : KK} {K2 : Bool → KK} {D : Ends} {ta tb te : TE} {tt tu : TT} {ts tu' : TS} {r : R2} {i : Nat} {v : V}

/-! ### the steps that only unfold -/
theorem k_op (h : Gk L rs st os (evk ta (evk tb (opk r K)))) : Gk L rs st os (evk (tOp r ta tb) K) := h
theorem k_un {r : V → Hp → VK → Prop} (h : Gk L rs st os (evk ta (unk r K))) : Gk L rs st os (evk (tUn r ta) K) := h
theorem k_seq (h : Gk L rs st os (stk ts (Dn tu' D))) : Gk L rs st os (stk (tSeq ts tu') D) := h
theorem k_nxD (h : Gk L rs st os (stk tu' D)) : Gk L rs st os (nxk (Dn tu' D)) := h
theorem k_rtD (h : Gk L rs st os (rtk D)) : Gk L rs st os (rtk (Dn tu' D)) := h
theorem k_bkD (h : Gk L rs st os (bkk D)) : Gk L rs st os (bkk (Dn tu' D)) := h
theorem k_ctD (h : Gk L rs st os (ctk D)) : Gk L rs st os (ctk (Dn tu' D)) := h
theorem k_next (h : Gk L rs st os (nxk D)) : Gk L rs st os (stk tNext D) := h
theorem k_brk (h : Gk L rs st os (bkk D)) : Gk L rs st os (stk tBreak D) := h
theorem k_cont (h : Gk L rs st os (ctk D)) : Gk L rs st os (stk tCont D) := h
theorem k_ret (h : Gk L rs st os (evk te (rtk D))) : Gk L rs st os (stk (tRet te) D) := h
theorem k_retN (h : Gk L rs st os (evk (tC .non) (rtk D))) : Gk L rs st os (stk tRetN D) := h
theorem k_drop (h : Gk L rs st os (evk te (dropk (nxk D)))) : Gk L rs st os (stk (tDrop te) D) := h
theorem k_asg (h : Gk L rs st os (evk te (setk i D))) : Gk L rs st os (stk (tAsg te (gName i)) D) := h
theorem k_if {c : TT} {t u : TS} (h : Gk L rs st os (tk c (ifk t u D))) : Gk L rs st os (stk (tIfS c t u) D) := h
theorem k_ttest (h : Gk L rs st os (evk te (tbk K2))) : Gk L rs st os (tk (tTest te) K2) := h
theorem k_tB (h : Gk L rs st os (evk te (tbk K2))) : Gk L rs st os (tk (tB te) K2) := h
theorem k_and (h : Gk L rs st os (tk tt (andk tu K2))) : Gk L rs st os (tk (tAnd tt tu) K2) := h
theorem k_or (h : Gk L rs st os (tk tt (ork tu K2))) : Gk L rs st os (tk (tOr tt tu) K2) := h
theorem k_not (h : Gk L rs st os (tk tt (fun b => K2 (!b)))) : Gk L rs st os (tk (tNot tt) K2) := h
theorem k_ifT {t u : TS} (h : Gk L rs st os (stk t D)) : Gk L rs st os (ifk t u D true) := fun σ vs H s => by
  show (if true = true then _ else _)
  rw [if_pos rfl]; exact h σ vs H s
theorem k_ifF {t u : TS} (h : Gk L rs st os (stk u D)) : Gk L rs st os (ifk t u D false) := fun σ vs H s => by
  show (if false = true then _ else _)
  rw [if_neg Bool.false_ne_true]; exact h σ vs H s
theorem k_if2 {t u : TS} {b : Bool} (h1 : b = true → Gk L rs st os (stk t D)) (h2 : b = false → Gk L rs st os (stk u D)) : Gk L rs st os (ifk t u D b) := by
  cases b with
  | true => exact k_ifT (h1 rfl)
  | false => exact k_ifF (h2 rfl)
theorem k_andT (h : Gk L rs st os (tk tu K2)) : Gk L rs st os (andk tu K2 true) := fun σ vs H s => by
  show (if true = true then _ else _)
  rw [if_pos rfl]; exact h σ vs H s
theorem k_andF (h : Gk L rs st os (K2 false)) : Gk L rs st os (andk tu K2 false) := fun σ vs H s => by
  show (if false = true then _ else _)
  rw [if_neg Bool.false_ne_true]; exact h σ vs H s
theorem k_orF (h : Gk L rs st os (tk tu K2)) : Gk L rs st os (ork tu K2 false) := fun σ vs H s => by
  show (if false = true then _ else _)
  rw [if_neg Bool.false_ne_true]; exact h σ vs H s
theorem k_orT (h : Gk L rs st os (K2 true)) : Gk L rs st os (ork tu K2 true) := fun σ vs H s => by
  show (if true = true then _ else _)
  rw [if_pos rfl]; exact h σ vs H s
/-- both ways of the first test -/
theorem k_and2 {b : Bool} (h1 : b = true → Gk L rs st os (tk tu K2)) (h2 : b = false → Gk L rs st os (K2 false)) : Gk L rs st os (andk tu K2 b) := by
  cases b with
  | true => exact k_andT (h1 rfl)
  | false => exact k_andF (h2 rfl)
theorem k_or2 {b : Bool} (h1 : b = false → Gk L rs st os (tk tu K2)) (h2 : b = true → Gk L rs st os (K2 true)) : Gk L rs st os (ork tu K2 b) := by
  cases b with
  | true => exact k_orT (h2 rfl)
  | false => exact k_orF (h1 rfl)
/-- the second test is a value, too: joined -/
theorem k_andJ {b c : Bool} (h1 : b = true → ∀ K' : Bool → KK, Gk L rs st os (K' c) → Gk L rs st os (tk tu K')) (h : Gk L rs st os (K2 (b && c))) : Gk L rs st os (andk tu K2 b) := by
  cases b with
  | true => exact k_andT (h1 rfl K2 h)
  | false => exact k_andF h
theorem k_orJ {b c : Bool} (h1 : b = false → ∀ K' : Bool → KK, Gk L rs st os (K' c) → Gk L rs st os (tk tu K')) (h : Gk L rs st os (K2 (b || c))) : Gk L rs st os (ork tu K2 b) := by
  cases b with
  | true => exact k_orT h
  | false => exact k_orF (h1 rfl K2 h)

/-! ### the state is turned -/
theorem k_imp {rs' : List (Option R)} {st' : List R} {os' : List Own} (hi : ∀ σ vs H, S L rs st os σ vs H → S L rs' st' os' σ vs H) (h : Gk L rs' st' os' K) : Gk L rs st os K := fun σ vs H s => h σ vs H (hi σ vs H s)
theorem k_var {q : R} (e : rs[i]? = some (some q)) (h : Gk L rs (q :: st) os K) : Gk L rs st os (evk (tVar i) K) := fun σ vs H s => by
  obtain ⟨B, hs, c, ho, hr, hst⟩ := s
  obtain ⟨b, h1, v, h2, h3⟩ := pget hr e
  subst h2
  exact ⟨v, h1, h σ (v :: vs) H ⟨B, hs, c, ho, hr, .cons h3 hst⟩⟩
theorem k_c {q : R} (hq : ∀ B, q.p B v) (h : Gk L rs (q :: st) os K) : Gk L rs st os (evk (tC v) K) := fun σ vs H s => by
  obtain ⟨B, hs, c, ho, hr, hst⟩ := s
  exact h σ (v :: vs) H ⟨B, hs, c, ho, hr, .cons (hq B) hst⟩
theorem k_set {q : R} (h : Gk L (rs.set i (some q)) st os (nxk D)) : Gk L rs (q :: st) os (setk i D) := fun σ vs H s => by
  obtain ⟨B, hs, c, ho, hr, hst⟩ := s
  cases hst with
  | cons h1 h2 => exact h _ _ H ⟨B, hs, c, ho, pset (show slotOk B (some q) (some _) from ⟨_, rfl, h1⟩) i hr, h2⟩
theorem k_pop {q : R} (h : Gk L rs st os K) : Gk L rs (q :: st) os (dropk K) := fun σ vs H s => by
  obtain ⟨B, hs, c, ho, hr, hst⟩ := s
  cases hst with
  | cons h1 h2 => exact h _ _ H ⟨B, hs, c, ho, hr, h2⟩
/-- another word for the value on the stack -/
theorem k_top {q q' : R} (hq : ∀ B v, q.p B v → q'.p B v) (h : Gk L rs (q' :: st) os K) : Gk L rs (q :: st) os K := fun σ vs H s => by
  obtain ⟨B, hs, c, ho, hr, hst⟩ := s
  cases hst with
  | cons h1 h2 => exact h _ _ H ⟨B, hs, c, ho, hr, .cons (hq B _ h1) h2⟩
/-- an operation that only looks: its answer -/
theorem k_op1 {q1 q2 q3 : R} (hr : ∀ (B : Hp) (hs : List Hp) (H : Hp) (x y : V), Cur L B hs H → q1.p B x → q2.p B y → ∃ z, q3.p B z ∧ ∀ Q : VK, Q z H → r x y H Q) (h : Gk L rs (q3 :: st) os K) : Gk L rs (q2 :: q1 :: st) os (opk r K) := fun σ vs H s => by
  obtain ⟨B, hs, c, ho, hrr, hst⟩ := s
  cases hst with
  | cons h1 h2 =>
    cases h2 with
    | cons h3 h4 =>
      obtain ⟨z, hz, hk⟩ := hr B hs H _ _ c h3 h1
      exact hk _ (h σ _ H ⟨B, hs, c, ho, hrr, .cons hz h4⟩)
theorem k_un1 {r : V → Hp → VK → Prop} {q1 q3 : R} (hr : ∀ (B : Hp) (hs : List Hp) (H : Hp) (x : V), Cur L B hs H → q1.p B x → ∃ z, q3.p B z ∧ ∀ Q : VK, Q z H → r x H Q) (h : Gk L rs (q3 :: st) os K) : Gk L rs (q1 :: st) os (unk r K) := fun σ vs H s => by
  obtain ⟨B, hs, c, ho, hrr, hst⟩ := s
  cases hst with
  | cons h1 h2 =>
    obtain ⟨z, hz, hk⟩ := hr B hs H _ c h1
    exact hk _ (h σ _ H ⟨B, hs, c, ho, hrr, .cons hz h2⟩)
end

/-! ### plain values -/
def rV (v : V) : R := ⟨fun _ u => u = v, fun _ h => h⟩
abbrev rI (i : Int) : R := rV (.int i)
abbrev rB (b : Bool) : R := rV (.bl b)
abbrev rS (x : Str) : R := rV (.str x)
abbrev rN : R := rV .non
abbrev rA (a : Addr) : R := rV (.ref a)
/-- nothing is known -/
def rAny : R := ⟨fun _ _ => True, fun _ h => h⟩

section
variable {L : Lk} {rs : List (Option R)} {st : List R} {os : List Own} {K : KK} {K2 : Bool → KK} {D : Ends} {v w : V}
theorem k_cv (h : Gk L rs (rV v :: st) os K) : Gk L rs st os (evk (tC v) K) := k_c (fun _ => rfl) h
theorem k_tb {b : Bool} (h : Gk L rs st os (K2 b)) : Gk L rs (rB b :: st) os (tbk K2) := fun σ vs H s => by
  obtain ⟨B, hs, c, ho, hrr, hst⟩ := s
  cases hst with
  | cons h1 h2 => exact ⟨b, h1, h σ _ H ⟨B, hs, c, ho, hrr, h2⟩⟩
/-- two plain values: the rule gives its answer by them alone -/
theorem k_opV {r : R2} {z : V} (hr : ∀ (H : Hp) (Q : VK), Q z H → r v w H Q) (h : Gk L rs (rV z :: st) os K) : Gk L rs (rV w :: rV v :: st) os (opk r K) :=
  k_op1 (fun B hs H x y c hx hy => ⟨z, rfl, fun Q q => by rw [hx, hy]; exact hr H Q q⟩) h
theorem k_unV {r : V → Hp → VK → Prop} {z : V} (hr : ∀ (H : Hp) (Q : VK), Q z H → r v H Q) (h : Gk L rs (rV z :: st) os K) : Gk L rs (rV v :: st) os (unk r K) :=
  k_un1 (fun B hs H x c hx => ⟨z, rfl, fun Q q => by rw [hx]; exact hr H Q q⟩) h
theorem k_I0 {g : Int → Int → V} {i j : Int} (h : Gk L rs (rV (g i j) :: st) os K) : Gk L rs (rI j :: rI i :: st) os (opk (L2.rI0 g) K) := k_opV (fun H Q q => ⟨i, j, rfl, rfl, q⟩) h
theorem k_I {C : Int → Int → Prop} {g : Int → Int → V} {i j : Int} (hc : C i j) (h : Gk L rs (rV (g i j) :: st) os K) : Gk L rs (rI j :: rI i :: st) os (opk (L2.rI C g) K) := k_opV (fun H Q q => ⟨i, j, rfl, rfl, hc, q⟩) h
theorem k_eq (hs : scal v w = true) (h : Gk L rs (rB (decide (v = w)) :: st) os K) : Gk L rs (rV w :: rV v :: st) os (opk rEq K) := k_opV (fun H Q q => ⟨hs, q⟩) h
theorem k_ne (hs : scal v w = true) (h : Gk L rs (rB (!decide (v = w)) :: st) os K) : Gk L rs (rV w :: rV v :: st) os (opk rNe K) := k_opV (fun H Q q => ⟨hs, q⟩) h
end
end G
/-! GL2: lists, tuples, argument lists, calls by contract, a def's body by its contract, loops. Own work. -/
namespace G
open PySem PySem.Spec PyProof.Rows L2

/-! ### sequences -/
def AllR (B : Hp) (qs : List R) (vs : List V) : Prop := Paired (fun (q : R) v => q.p B v) qs vs
theorem AllR.mono {B B' : Hp} (e : Ex B B') {qs : List R} {vs : List V} (h : AllR B qs vs) : AllR B' qs vs := pmap h fun q _ r => q.mono e r
theorem AllR.len {B : Hp} {qs : List R} {vs : List V} (h : AllR B qs vs) : qs.length = vs.length := Paired.length h
theorem ex_rd {H H' : Hp} {a : Addr} {u : HO} (e : Ex H H') (h : Rd H a u) : Rd H' a u := by
  rcases h with h | ⟨o, h⟩
  · exact Or.inl (e a _ h)
  · exact Or.inr ⟨o, e a _ h⟩
theorem ex_l {K : PySem.W.Frag} {H H' : Hp} {a : Addr} {xs : List V} (e : Ex H H') (h : SqL K H a xs) : SqL K H' a xs := h.elim (fun h => .inl (ex_rd e h)) fun h => .inr h
theorem ex_t {K : PySem.W.Frag} {H H' : Hp} {a : Addr} {xs : List V} (e : Ex H H') (h : SqT K H a xs) : SqT K H' a xs := h.elim (fun h => .inl (ex_rd e h)) fun h => .inr h
/-- a list, a tuple that stays, its items by predicates -/
def rLk (K : PySem.W.Frag) (qs : List R) : R := ⟨fun B v => ∃ a vs, v = .ref a ∧ SqL K B a vs ∧ AllR B qs vs, fun e ⟨a, vs, h1, h2, h3⟩ => ⟨a, vs, h1, ex_l e h2, h3.mono e⟩⟩
def rTk (K : PySem.W.Frag) (qs : List R) : R := ⟨fun B v => ∃ a vs, v = .ref a ∧ SqT K B a vs ∧ AllR B qs vs, fun e ⟨a, vs, h1, h2, h3⟩ => ⟨a, vs, h1, ex_t e h2, h3.mono e⟩⟩
/-- .. made by the program -/
def rLs (qs : List R) : R := ⟨fun B v => ∃ a vs, v = .ref a ∧ B a = some (.lst vs) ∧ AllR B qs vs, fun e ⟨a, vs, h1, h2, h3⟩ => ⟨a, vs, h1, e _ _ h2, h3.mono e⟩⟩
def rTp (qs : List R) : R := ⟨fun B v => ∃ a vs, v = .ref a ∧ B a = some (.tup vs) ∧ AllR B qs vs, fun e ⟨a, vs, h1, h2, h3⟩ => ⟨a, vs, h1, e _ _ h2, h3.mono e⟩⟩
/-- lists, tuples that stay -/
class StL (K : PySem.W.Frag) (q : R) (qs : outParam (List R)) : Prop where
  get : ∀ {B : Hp} {v : V}, q.p B v → ∃ a vs, v = .ref a ∧ SqL K B a vs ∧ AllR B qs vs
instance {K : PySem.W.Frag} {qs : List R} : StL K (rLs qs) qs := ⟨fun ⟨a, vs, h1, h2, h3⟩ => ⟨a, vs, h1, .of h2, h3⟩⟩
instance {K : PySem.W.Frag} {qs : List R} : StL K (rLk K qs) qs := ⟨fun h => h⟩
class StT (K : PySem.W.Frag) (q : R) (qs : outParam (List R)) : Prop where
  get : ∀ {B : Hp} {v : V}, q.p B v → ∃ a vs, v = .ref a ∧ SqT K B a vs ∧ AllR B qs vs
instance {K : PySem.W.Frag} {qs : List R} : StT K (rTp qs) qs := ⟨fun ⟨a, vs, h1, h2, h3⟩ => ⟨a, vs, h1, .of h2, h3⟩⟩
instance {K : PySem.W.Frag} {qs : List R} : StT K (rTk K qs) qs := ⟨fun h => h⟩
/-- an own list at a -/
def oLs (a : Addr) (qs : List R) : Own := ⟨fun B h => ∃ vs, h = sgl a (.lst vs) ∧ AllR B qs vs, fun e ⟨vs, h1, h2⟩ => ⟨vs, h1, h2.mono e⟩⟩
/-- an own part as it is -/
def oEq (g : Hp) : Own := ⟨fun _ h => h = g, fun _ h => h⟩
/-- what was in the base stays -/
def rEx (B₀ : Hp) : R := ⟨fun B v => v = .non ∧ Ex B₀ B, fun e ⟨h, x⟩ => ⟨h, x.trans e⟩⟩
/-- the very items of a list, a tuple -/
def rLv (K : PySem.W.Frag) (a : Addr) (vs : List V) (qs : List R) : R := ⟨fun B v => v = .non ∧ SqL K B a vs ∧ AllR B qs vs, fun e ⟨h1, h2, h3⟩ => ⟨h1, ex_l e h2, h3.mono e⟩⟩
def rTv (K : PySem.W.Frag) (a : Addr) (vs : List V) (qs : List R) : R := ⟨fun B v => v = .non ∧ SqT K B a vs ∧ AllR B qs vs, fun e ⟨h1, h2, h3⟩ => ⟨h1, ex_t e h2, h3.mono e⟩⟩

/-! ### own parts by their place -/
theorem Cur.erase {L B hs H} (c : Cur L B hs H) (j : Nat) : Cur L B (hs.eraseIdx j) H := by
  refine ⟨c.base, c.lk, fun h hh => c.own h (List.mem_of_mem_eraseIdx hh), fun h hh => c.dB h (List.mem_of_mem_eraseIdx hh), fun i k h g hik hi hk => ?_⟩
  rw [List.getElem?_eraseIdx] at hi hk
  split at hi <;> split at hk
  · exact c.dh i k h g hik hi hk
  · exact c.dh i (k + 1) h g (by omega) hi hk
  · exact c.dh (i + 1) k h g (by omega) hi hk
  · exact c.dh (i + 1) (k + 1) h g (by omega) hi hk
theorem Cur.mem {L B hs H} (c : Cur L B hs H) {j : Nat} {h : Hp} (e : hs[j]? = some h) : h ∈ hs := List.mem_of_getElem? e
/-- an own object is changed -/
theorem Cur.mut {L B hs H} (c : Cur L B hs H) {j : Nat} {p : Addr} {o o' : HO} (e : hs[j]? = some (sgl p o)) : Cur L B (hs.set j (sgl p o')) (upd H p o') := by
  have hj : j < hs.length := (List.getElem?_eq_some_iff.mp e).1
  have hB : B p = none := by
    rcases c.dB _ (c.mem e) p with z | z
    · exact z
    · rw [sgl_same] at z; cases z
  have oth : ∀ i h, i ≠ j → hs[i]? = some h → h p = none := fun i h hij hi => by
    rcases c.dh i j h _ hij hi e p with z | z
    · exact z
    · rw [sgl_same] at z; cases z
  have get : ∀ i h, (hs.set j (sgl p o'))[i]? = some h → (i = j ∧ h = sgl p o') ∨ (i ≠ j ∧ hs[i]? = some h) := fun i h hi => by
    by_cases z : i = j
    · subst z
      rw [List.getElem?_set_self hj] at hi
      exact .inl ⟨rfl, (Option.some.inj hi).symm⟩
    · rw [List.getElem?_set_ne (Ne.symm z)] at hi
      exact .inr ⟨z, hi⟩
  have sd : ∀ g : Hp, g p = none → Dj (sgl p o') g := fun g hg a => by
    by_cases z : a = p
    · subst z; exact .inr hg
    · exact .inl (sgl_ne z)
  refine ⟨fun a u q => ?_, c.lk, fun h hh a u q => ?_, fun h hh => ?_, fun i k h g hik hi hk => ?_⟩
  · rw [upd_ne (ne_of_none q hB)]
    exact c.base a u q
  · obtain ⟨i, hi⟩ := List.getElem?_of_mem hh
    rcases get i h hi with ⟨_, rfl⟩ | ⟨z, hi⟩
    · obtain ⟨rfl, rfl⟩ := sgl_of q
      exact upd_same
    · rw [upd_ne (ne_of_none q (oth i h z hi))]
      exact c.own h (c.mem hi) a u q
  · obtain ⟨i, hi⟩ := List.getElem?_of_mem hh
    rcases get i h hi with ⟨_, rfl⟩ | ⟨z, hi⟩
    · exact (sd B hB).symm
    · exact c.dB h (c.mem hi)
  · rcases get i h hi with ⟨e1, rfl⟩ | ⟨z, hi⟩
    · rcases get k g hk with ⟨e2, rfl⟩ | ⟨z, hk⟩
      · exact absurd (e1.trans e2.symm) hik
      · exact sd g (oth k g z hk)
    · rcases get k g hk with ⟨e2, rfl⟩ | ⟨z2, hk⟩
      · exact (sd h (oth i h z hi)).symm
      · exact c.dh i k h g hik hi hk
/-- an own object is put into the base -/
theorem Cur.frz {L B hs H} (c : Cur L B hs H) {j : Nat} {p : Addr} {o : HO} (e : hs[j]? = some (sgl p o)) : Cur L (upd B p o) (hs.eraseIdx j) H := by
  have hB : B p = none := by
    rcases c.dB _ (c.mem e) p with z | z
    · exact z
    · rw [sgl_same] at z; cases z
  have d := c.erase j
  refine ⟨fun a u q => ?_, fun a od q => ?_, d.own, fun h hh a => ?_, d.dh⟩
  · by_cases z : a = p
    · subst z
      rw [upd_same] at q; cases q
      have := c.own _ (c.mem e) a o sgl_same
      unfold rdL
      rw [c.nolkF hB]
      exact this
    · rw [upd_ne z] at q
      exact c.base a u q
  · obtain ⟨u, e1, d1⟩ := c.lk a od q
    exact ⟨u, by rw [upd_ne (ne_of_none e1 hB)]; exact e1, d1⟩
  · by_cases z : a = p
    · subst z
      obtain ⟨i, hi⟩ := List.getElem?_of_mem hh
      rw [List.getElem?_eraseIdx] at hi
      have oth : ∀ i h, i ≠ j → hs[i]? = some h → h a = none := fun i h hij hi => by
        rcases c.dh i j h _ hij hi e a with z | z
        · exact z
        · rw [sgl_same] at z; cases z
      split at hi
      · exact .inr (oth i h (by omega) hi)
      · exact .inr (oth (i + 1) h (by omega) hi)
    · rw [upd_ne z]
      exact d.dB h hh a
theorem perase {α β : Type} {F : α → β → Prop} : ∀ {l₁ : List α} {l₂ : List β} (i : Nat), Paired F l₁ l₂ → Paired F (l₁.eraseIdx i) (l₂.eraseIdx i)
  | _, _, _, .nil => .nil
  | _, _, 0, .cons _ t => t
  | _, _, i + 1, .cons q t => .cons q (perase i t)

section
variable {L : Lk} {rs : List (Option R)} {st : List R} {os : List Own} {K : KK} {K2 : Bool → KK} {D : Ends} {F : PySem.W.Frag}
/-- an own part that is not wanted any more -/
theorem k_forget (j : Nat) (h : Gk L rs st (os.eraseIdx j) K) : Gk L rs st os K := fun σ vs H s => by
  obtain ⟨B, hs, c, ho, hr, hst⟩ := s
  exact h σ vs H ⟨B, hs.eraseIdx j, c.erase j, perase j ho, hr, hst⟩
/-- the own list at a becomes one of the base: what stands on the stack -/
theorem k_frzL {a : Addr} {qs : List R} (j : Nat) (e : os[j]? = some (oLs a qs)) (h : Gk L rs (rLs qs :: st) (os.eraseIdx j) K) : Gk L rs (rA a :: st) os K := fun σ vs H s => by
  obtain ⟨B, hs, c, ho, hr, hst⟩ := s
  obtain ⟨g, hg, ws, rfl, hw⟩ := pget ho e
  have hB : B a = none := by
    rcases c.dB _ (c.mem hg) a with z | z
    · exact z
    · rw [sgl_same] at z; cases z
  have ex : Ex B (upd B a (.lst ws)) := Ex.new hB
  cases hst with
  | cons h1 h2 =>
    exact h σ _ H ⟨_, _, c.frz hg, pmap (perase j ho) (fun O _ q => O.mono ex q), pmap hr (fun _ _ q => q.mono ex), .cons ⟨a, ws, h1, upd_same, AllR.mono ex hw⟩ (pmap h2 fun q _ z => q.mono ex z)⟩
/-- .. and what stands in the slot i, too -/
theorem k_frzS {a : Addr} {qs : List R} (i j : Nat) (e : os[j]? = some (oLs a qs)) (ei : rs[i]? = some (some (rA a))) (h : Gk L (rs.set i (some (rLs qs))) st (os.eraseIdx j) K) : Gk L rs st os K := fun σ vs H s => by
  obtain ⟨B, hs, c, ho, hr, hst⟩ := s
  obtain ⟨g, hg, ws, rfl, hw⟩ := pget ho e
  have hB : B a = none := by
    rcases c.dB _ (c.mem hg) a with z | z
    · exact z
    · rw [sgl_same] at z; cases z
  have ex : Ex B (upd B a (.lst ws)) := Ex.new hB
  obtain ⟨b, hb, v, hv, ev⟩ := pget hr ei
  subst hv
  have hi : (σ.set i (some v)) = σ := by
    obtain ⟨hlt, hx⟩ := List.getElem?_eq_some_iff.mp hb
    rw [← hx, List.set_getElem_self]
  have q := pset (F := slotOk (upd B a (.lst ws))) (a := some (rLs qs)) (b := some v) ⟨v, rfl, a, ws, ev, upd_same, AllR.mono ex hw⟩ i (pmap hr fun _ _ q => q.mono ex)
  rw [hi] at q
  exact h σ _ H ⟨_, _, c.frz hg, pmap (perase j ho) (fun O _ q => O.mono ex q), q, pmap hst fun q _ z => q.mono ex z⟩
end

/-! ### argument lists -/
def akN (n : Nat) (tr : TA) (K : List V → KK) : KK := fun σ vs H => tr σ H fun xs H2 => K ((vs.take n).reverse ++ xs) σ (vs.drop n) H2
/-- the arguments stand in order at the stack's front -/
def GA (L : Lk) (rs : List (Option R)) (as st : List R) (os : List Own) (K : List V → KK) : Prop := ∀ σ us vs H, us.length = as.length → S L rs (as ++ st) os σ (us ++ vs) H → K us σ vs H
section
variable {L : Lk} {rs : List (Option R)} {st : List R} {os : List Own} {KA : List V → KK} {ta : TE} {tr : TA} {n : Nat}
theorem k_ak0 (h : Gk L rs st os (akN 0 tr KA)) : Gk L rs st os (ak tr KA) := fun σ vs H s => by
  have q := h σ vs H s
  show tr σ H fun us H' => KA us σ vs H'
  simpa [akN] using q
theorem k_arg (h : Gk L rs st os (evk ta (akN (n + 1) tr KA))) : Gk L rs st os (akN n (tCons ta tr) KA) := fun σ vs H s => by
  have q := h σ vs H s
  show ta σ H fun x H1 => tr σ H1 fun xs H2 => KA ((vs.take n).reverse ++ (x :: xs)) σ (vs.drop n) H2
  have e : (fun (x : V) (H1 : Hp) => tr σ H1 fun xs H2 => KA ((vs.take n).reverse ++ (x :: xs)) σ (vs.drop n) H2) = fun x H1 => akN (n + 1) tr KA σ (x :: vs) H1 := by
    funext x H1
    unfold akN
    simp
  rw [e]
  exact q
theorem k_argN (h : ∀ us, us.length = n → ∀ σ vs H, S L rs st os σ (us ++ vs) H → KA us.reverse σ vs H) (hn : n ≤ st.length) : Gk L rs st os (akN n tNil KA) := fun σ vs H s => by
  obtain ⟨B, hs, c, ho, hr, hst⟩ := id s
  have hl : st.length = vs.length := Paired.length hst
  show KA ((vs.take n).reverse ++ []) σ (vs.drop n) H
  rw [List.append_nil]
  exact h (vs.take n) (by rw [List.length_take]; omega) σ (vs.drop n) H (by rw [List.take_append_drop]; exact s)
theorem k_a0 (h : GA L rs [] st os KA) : Gk L rs st os (akN 0 tNil KA) := fun σ vs H s => h σ [] vs H rfl s
theorem k_a1 {q1 : R} (h : GA L rs [q1] st os KA) : Gk L rs (q1 :: st) os (akN 1 tNil KA) := fun σ vs H s => by
  obtain ⟨B, hs, c, ho, hr, hst⟩ := s
  cases hst with
  | cons h1 h2 => exact h σ [_] _ H rfl ⟨B, hs, c, ho, hr, .cons h1 h2⟩
theorem k_a2 {q1 q2 : R} (h : GA L rs [q1, q2] st os KA) : Gk L rs (q2 :: q1 :: st) os (akN 2 tNil KA) := fun σ vs H s => by
  obtain ⟨B, hs, c, ho, hr, hst⟩ := s
  cases hst with
  | cons h1 h2 =>
    cases h2 with
    | cons h3 h4 => exact h σ [_, _] _ H rfl ⟨B, hs, c, ho, hr, .cons h3 (.cons h1 h4)⟩
theorem k_a3 {q1 q2 q3 : R} (h : GA L rs [q1, q2, q3] st os KA) : Gk L rs (q3 :: q2 :: q1 :: st) os (akN 3 tNil KA) := fun σ vs H s => by
  obtain ⟨B, hs, c, ho, hr, hst⟩ := s
  cases hst with
  | cons h1 h2 =>
    cases h2 with
    | cons h3 h4 =>
      cases h4 with
      | cons h5 h6 => exact h σ [_, _, _] _ H rfl ⟨B, hs, c, ho, hr, .cons h5 (.cons h3 (.cons h1 h6))⟩
theorem k_a4 {q1 q2 q3 q4 : R} (h : GA L rs [q1, q2, q3, q4] st os KA) : Gk L rs (q4 :: q3 :: q2 :: q1 :: st) os (akN 4 tNil KA) := fun σ vs H s => by
  obtain ⟨B, hs, c, ho, hr, hst⟩ := s
  cases hst with
  | cons h1 h2 =>
    cases h2 with
    | cons h3 h4 =>
      cases h4 with
      | cons h5 h6 =>
        cases h6 with
        | cons h7 h8 => exact h σ [_, _, _, _] _ H rfl ⟨B, hs, c, ho, hr, .cons h7 (.cons h5 (.cons h3 (.cons h1 h8)))⟩
theorem k_a5 {q1 q2 q3 q4 q5 : R} (h : GA L rs [q1, q2, q3, q4, q5] st os KA) : Gk L rs (q5 :: q4 :: q3 :: q2 :: q1 :: st) os (akN 5 tNil KA) := fun σ vs H s => by
  obtain ⟨B, hs, c, ho, hr, hst⟩ := s
  cases hst with
  | cons h1 h2 =>
    cases h2 with
    | cons h3 h4 =>
      cases h4 with
      | cons h5 h6 =>
        cases h6 with
        | cons h7 h8 =>
          cases h8 with
          | cons h9 h10 => exact h σ [_, _, _, _, _] _ H rfl ⟨B, hs, c, ho, hr, .cons h9 (.cons h7 (.cons h5 (.cons h3 (.cons h1 h10))))⟩
theorem k_a6 {q1 q2 q3 q4 q5 q6 : R} (h : GA L rs [q1, q2, q3, q4, q5, q6] st os KA) : Gk L rs (q6 :: q5 :: q4 :: q3 :: q2 :: q1 :: st) os (akN 6 tNil KA) := fun σ vs H s => by
  obtain ⟨B, hs, c, ho, hr, hst⟩ := s
  cases hst with
  | cons h1 h2 =>
    cases h2 with
    | cons h3 h4 =>
      cases h4 with
      | cons h5 h6 =>
        cases h6 with
        | cons h7 h8 =>
          cases h8 with
          | cons h9 h10 =>
            cases h10 with
            | cons h11 h12 => exact h σ [_, _, _, _, _, _] _ H rfl ⟨B, hs, c, ho, hr, .cons h11 (.cons h9 (.cons h7 (.cons h5 (.cons h3 (.cons h1 h12)))))⟩
end

/-! ### displays -/
def lstk (K : KK) (us : List V) : KK := fun σ vs H => us.length ≤ sizeLine ∧ ∀ p, H p = none → K σ (.ref p :: vs) (upd H p (.lst us))
def tupk (K : KK) (us : List V) : KK := fun σ vs H => us.length ≤ sizeLine ∧ ∀ p, H p = none → K σ (.ref p :: vs) (upd H p (.tup us))
section
variable {L : Lk} {rs : List (Option R)} {st as : List R} {os : List Own} {K : KK} {ta : TA} {F : PySem.W.Frag}
theorem S.args {us vs : List V} {σ : L2.St} {H : Hp} (hl : us.length = as.length) (s : S L rs (as ++ st) os σ (us ++ vs) H) : ∃ (B : Hp) (hs : List Hp), Cur L B hs H ∧ Paired (fun O h => Own.p O B h) os hs ∧ Paired (slotOk B) rs σ ∧ AllR B as us ∧ AllR B st vs := by
  obtain ⟨B, hs, c, ho, hr, hst⟩ := s
  obtain ⟨a, b, e, h1, h2⟩ := psplit hst
  have e1 := Paired.length h1
  obtain ⟨rfl, rfl⟩ := List.append_inj e (by omega)
  exact ⟨B, hs, c, ho, hr, h1, h2⟩
theorem k_lst0 (h : Gk L rs st os (ak ta (lstk K))) : Gk L rs st os (evk (tLst ta) K) := h
theorem k_tup0 (h : Gk L rs st os (ak ta (tupk K))) : Gk L rs st os (evk (tTup ta) K) := h
theorem newB {B : Hp} {hs : List Hp} {H : Hp} {vs : List V} {σ : L2.St} (c : Cur L B hs H) (ho : Paired (fun O h => Own.p O B h) os hs) (hr : Paired (slotOk B) rs σ) (h2 : AllR B st vs) {p : Addr} {o : HO} (hp : H p = none) {q : R} (hq : q.p (upd B p o) (.ref p)) : S L rs (q :: st) os σ (.ref p :: vs) (upd H p o) := by
  have ex : Ex B (upd B p o) := Ex.new (c.free hp)
  exact ⟨_, hs, c.newB hp, pmap ho (fun O _ z => O.mono ex z), pmap hr (fun _ _ z => z.mono ex), .cons hq (AllR.mono ex h2)⟩
/-- a list that will stay -/
theorem k_lstB (hn : as.length ≤ 10000) (h : Gk L rs (rLs as :: st) os K) : GA L rs as st os (lstk K) := fun σ us vs H hl s => by
  obtain ⟨B, hs, c, ho, hr, h1, h2⟩ := S.args hl s
  refine ⟨by rw [hl]; exact Nat.le_trans hn (by decide), fun p hp => h _ _ _ (newB c ho hr h2 hp ?_)⟩
  exact ⟨p, us, rfl, upd_same, h1.mono (Ex.new (c.free hp))⟩
/-- an own list -/
theorem k_lstO (hn : as.length ≤ 10000) (h : ∀ p, Gk L rs (rA p :: st) (oLs p as :: os) K) : GA L rs as st os (lstk K) := fun σ us vs H hl s => by
  obtain ⟨B, hs, c, ho, hr, h1, h2⟩ := S.args hl s
  exact ⟨by rw [hl]; exact Nat.le_trans hn (by decide), fun p hp => h p _ _ _ ⟨B, _, c.newO hp, .cons ⟨us, rfl, h1⟩ ho, hr, .cons rfl h2⟩⟩
theorem k_tupB (hn : as.length ≤ 10000) (h : Gk L rs (rTp as :: st) os K) : GA L rs as st os (tupk K) := fun σ us vs H hl s => by
  obtain ⟨B, hs, c, ho, hr, h1, h2⟩ := S.args hl s
  refine ⟨by rw [hl]; exact Nat.le_trans hn (by decide), fun p hp => h _ _ _ (newB c ho hr h2 hp ?_)⟩
  exact ⟨p, us, rfl, upd_same, h1.mono (Ex.new (c.free hp))⟩
end
end G
/-! GL3: contracts of defs, calls by them, a def's body, loops over lists and ranges, while. Own work. -/
namespace G
open PySem PySem.Spec PyProof.Rows L2

/-! ### contracts -/
/-- a contract: for a datum d with ok d: the arguments are as pre d says, the own parts as own d; behind the call, for some e with post d e: the answer is as ret d e says, the own parts as out d e -/
structure Ct where
  δ : Type
  ε : Type
  ok : δ → Prop
  pre : δ → List R
  own : δ → List Own
  post : δ → ε → Prop
  ret : δ → ε → R
  out : δ → ε → List Own
def Fn (c : Ct) : Sp := fun vs H Q _ => ∃ (d : c.δ) (L : Lk) (B : Hp) (hs gs : List Hp), c.ok d ∧ Cur L B (hs ++ gs) H ∧ Paired (fun O h => Own.p O B h) (c.own d) hs ∧ AllR B (c.pre d) vs ∧
  ∀ (e : c.ε) (v : V) (H' B' : Hp) (hs' : List Hp), c.post d e → Ex B B' → Cur L B' (hs' ++ gs) H' → Paired (fun O h => Own.p O B' h) (c.out d e) hs' → (c.ret d e).p B' v → Q v H'

def callk (sp : Sp) (dvs : List V) (E : XK) (K : KK) (us : List V) : KK := fun σ vs H => sp (us ++ dvs) H (fun z H' => K σ (z :: vs) H') E
section
variable {L : Lk} {rs : List (Option R)} {st as : List R} {os fr : List Own} {K : KK} {ta : TA} {F : PySem.W.Frag} {sp : Sp} {dvs : List V} {E : XK} {c : Ct}
theorem k_call (h : Gk L rs st os (ak ta (callk sp dvs E K))) : Gk L rs st os (evk (tCall sp dvs E ta) K) := h
/-- the own parts at the places js come first -/
theorem Cur.perm {L : Lk} {B H : Hp} {hs gs : List Hp} (c : Cur L B hs H) (f : Nat → Nat) (hf : ∀ i j, i < gs.length → j < gs.length → f i = f j → i = j) (hg : ∀ (i : Nat) g, gs[i]? = some g → hs[f i]? = some g) : Cur L B gs H := by
  refine ⟨c.base, c.lk, fun g hh => ?_, fun g hh => ?_, fun i j h g hij hi hj => ?_⟩
  · obtain ⟨i, hi⟩ := List.getElem?_of_mem hh
    exact c.own g (List.mem_of_getElem? (hg i g hi))
  · obtain ⟨i, hi⟩ := List.getElem?_of_mem hh
    exact c.dB g (List.mem_of_getElem? (hg i g hi))
  · exact c.dh (f i) (f j) h g (fun e => hij (hf i j (List.getElem?_eq_some_iff.mp hi).1 (List.getElem?_eq_some_iff.mp hj).1 e)) (hg i h hi) (hg j g hj)
theorem Cur.rot {L : Lk} {B H : Hp} {hs gs : List Hp} (c : Cur L B (hs ++ gs) H) : Cur L B (gs ++ hs) H := by
  have hq : ∀ (i : Nat) (g : Hp), (gs ++ hs)[i]? = some g → (hs ++ gs)[if i < gs.length then i + hs.length else i - gs.length]? = some g := fun i g hi => by
    split
    · rename_i hlt
      rw [List.getElem?_append_left hlt] at hi
      rw [List.getElem?_append_right (by omega)]
      rw [show i + hs.length - hs.length = i from by omega]; exact hi
    · rename_i hge
      rw [List.getElem?_append_right (by omega)] at hi
      rw [List.getElem?_append_left (List.getElem?_eq_some_iff.mp hi).1]; exact hi
  refine c.perm (fun i => if i < gs.length then i + hs.length else i - gs.length) (fun i j hi hj e => ?_) hq
  rw [List.length_append] at hi hj
  split at e <;> split at e <;> omega
/-- a call of a def by its contract; its own parts stand first -/
theorem k_callF (d : c.δ) (ho : os = c.own d ++ fr) (hp : as = c.pre d) (hok : c.ok d) (h : ∀ e, c.post d e → Gk L rs (c.ret d e :: st) (c.out d e ++ fr) K) : GA L rs as st os (callk (Fn c) [] E K) := fun σ us vs H hl s => by
  subst ho hp
  obtain ⟨B, hs, cu, ho, hr, h1, h2⟩ := S.args hl s
  obtain ⟨h1s, gs, rfl, ho1, ho2⟩ := psplit ho
  show Fn c (us ++ []) H _ E
  rw [List.append_nil]
  refine ⟨d, L, B, h1s, gs, hok, cu, ho1, h1, fun e v H' B' hs' he ex cu' hout hv => ?_⟩
  exact h e he σ _ H' ⟨B', hs' ++ gs, cu', papp hout (pmap ho2 fun O _ q => O.mono ex q), pmap hr fun _ _ q => q.mono ex, .cons hv (AllR.mono ex h2)⟩
/-- the own part at j is brought to the front -/
theorem k_front (j : Nat) {O : Own} (e : os[j]? = some O) (h : Gk L rs st (O :: os.eraseIdx j) K) : Gk L rs st os K := fun σ vs H s => by
  obtain ⟨B, hs, c, ho, hr, hst⟩ := s
  obtain ⟨g, hg, hO⟩ := pget ho e
  have hj : j < hs.length := (List.getElem?_eq_some_iff.mp hg).1
  refine h σ vs H ⟨B, g :: hs.eraseIdx j, c.perm (fun i => if i = 0 then j else if i - 1 < j then i - 1 else i) (fun a b ha hb q => ?_) (fun i u hi => ?_), .cons hO (perase j ho), hr, hst⟩
  · rw [List.length_cons, List.length_eraseIdx] at ha hb
    split at q <;> split at q <;> (try split at q) <;> (try split at q) <;> omega
  · cases i with
    | zero => simp at hi; subst hi; simpa using hg
    | succ i =>
      simp only [Nat.add_one_sub_one, Nat.succ_ne_zero, if_false]
      rw [List.getElem?_cons_succ, List.getElem?_eraseIdx] at hi
      split at hi
      · rename_i z; rw [if_pos (by omega)]; exact hi
      · rename_i z; rw [if_neg (by omega)]; exact hi
theorem ga_front (j : Nat) {O : Own} {KA : List V → KK} (e : os[j]? = some O) (h : GA L rs as st (O :: os.eraseIdx j) KA) : GA L rs as st os KA := fun σ us vs H hl s => by
  have q : Gk L rs (as ++ st) os (fun σ vs H => S L rs (as ++ st) (O :: os.eraseIdx j) σ vs H) := k_front j e fun σ vs H s => s
  exact h σ us vs H hl (q σ _ H s)
end

/-! ### a def's body -/
abbrev D0 (Q : VK) : Ends := { nx := fun _ H' => Q .non H', rt := Q }
def slots (N : List Str) (qs : List R) : List (Option R) := qs.map some ++ List.replicate (N.length - qs.length) none
/-- what is wanted at a return -/
def RetOk (L : Lk) (c : Ct) (d : c.δ) (g : R) (fr : List Own) (Q : VK) : Prop := ∀ (e : c.ε) (rs : List (Option R)) (σ : L2.St) (v w : V) (H' : Hp), c.post d e → S L rs [c.ret d e, g] (c.out d e ++ fr) σ [v, w] H' → Q v H'
theorem start_paired {B : Hp} {N : List Str} {qs : List R} {vs : List V} (h : AllR B qs vs) : Paired (slotOk B) (slots N qs) (L2.start N vs) := by
  unfold slots L2.start
  rw [AllR.len h]
  refine papp ?_ ?_
  · clear N
    induction h with
    | nil => exact .nil
    | cons r _ ih => exact .cons ⟨_, rfl, r⟩ ih
  · generalize N.length - vs.length = n
    induction n with
    | zero => exact .nil
    | succ n ih => rw [List.replicate_succ, List.replicate_succ]; exact .cons trivial ih
/-- THE BODY by its contract -/
theorem body {c : Ct} {t : TS} {N : List Str} {vs : List V} {H : Hp} {Q : VK} {E : XK} (h : Fn c vs H Q E)
    (hb : ∀ (d : c.δ) (L : Lk) (g : R) (fr : List Own) (Q : VK), c.ok d → RetOk L c d g fr Q → Gk L (slots N (c.pre d)) [g] (c.own d ++ fr) (stk t (D0 Q))) : t { nx := fun _ H' => Q .non H', rt := Q } (L2.start N vs) H := by
  obtain ⟨d, L, B, hs, gs, hok, cu, ho, hp, hQ⟩ := h
  have s : S L (slots N (c.pre d)) [rEx B] (c.own d ++ gs.map oEq) (start N vs) [.non] H := by
    refine ⟨B, hs ++ gs, cu, papp ho ?_, start_paired hp, .cons ⟨rfl, Ex.refl B⟩ .nil⟩
    clear cu hQ
    induction gs with
    | nil => exact .nil
    | cons g r ih => exact .cons rfl ih
  refine hb d L (rEx B) (gs.map oEq) Q hok (fun e rs σ v w H' he s' => ?_) (L2.start N vs) [.non] H s
  obtain ⟨B', ks, cu', ho', _, hst⟩ := s'
  obtain ⟨k1, k2, rfl, q1, q2⟩ := psplit ho'
  have ek : k2 = gs := by
    clear cu' hQ hb s ho' cu
    induction gs generalizing k2 with
    | nil => cases q2; rfl
    | cons g r ih =>
      cases q2 with
      | cons h1 h2 => rw [h1, ih _ h2]
  subst ek
  cases hst with
  | cons h1 h2 =>
    cases h2 with
    | cons h3 h4 => exact hQ e v H' B' k1 he h3.2 cu' q1 h1
section
variable {L : Lk} {rs : List (Option R)} {st as : List R} {os fr : List Own} {K : KK} {c : Ct} {d : c.δ} {g : R} {Q : VK}
theorem k_fin (hR : RetOk L c d g fr Q) (e : c.ε) (he : c.post d e) (h : ∀ (K : KK), Gk L rs [c.ret d e, g] (c.out d e ++ fr) K → Gk L rs st os K) : Gk L rs st os (rtk (D0 Q)) := by
  refine h _ fun σ vs H s => ?_
  obtain ⟨B, hs, cu, ho, hr, hst⟩ := id s
  cases hst with
  | cons h1 h2 =>
    cases h2 with
    | cons h3 h4 =>
      cases h4
      exact hR e rs σ _ _ H he s
theorem k_finN (hR : RetOk L c d g fr Q) (e : c.ε) (he : c.post d e) (h : ∀ (K : KK), Gk L rs [c.ret d e, g] (c.out d e ++ fr) K → Gk L rs (rN :: st) os K) : Gk L rs st os (nxk (D0 Q)) := by
  have q := k_fin hR e he h
  exact fun σ vs H s => q σ (.non :: vs) H (by
    obtain ⟨B, hs, cu, ho, hr, hst⟩ := s
    exact ⟨B, hs, cu, ho, hr, .cons rfl hst⟩)
end
theorem Fn.len {c : Ct} {vs : List V} {H : Hp} {Q : VK} {E : XK} {n : Nat} (h : Fn c vs H Q E) (hn : ∀ d, (c.pre d).length = n) : vs.length = n := by
  obtain ⟨d, L, B, hs, gs, _, _, _, hp, _⟩ := h
  rw [← AllR.len hp]; exact hn d

/-! ### loops -/
def Dl (N : L2.St → Hp → Prop) (D : Ends) : Ends := { D with nx := N, ct := N, bk := D.nx }
def forLk (F : PySem.W.Frag) (g : TG) (tb : TS) (D : Ends) : KK := fun σ vs H => match vs with
  | x :: _ => ∃ a, x = .ref a ∧ (∃ xs, SqL F H a xs) ∧ ∃ W : Nat → Nat → L2.St → Hp → Prop, (∃ m, W 0 m σ H) ∧ ∀ i m σ H, W i m σ H →
      ((Itl F a).stop i H ∧ D.nx σ H) ∨ ((Itl F a).go i H ∧ ∃ N : L2.St → Hp → Prop, (∀ σ' H', N σ' H' → ∃ m', m' < m ∧ W (i + 1) m' σ' H') ∧ ∀ x H', (Itl F a).yld i H x H' → g x σ H' fun σ2 H2 => tb { D with nx := N, ct := N, bk := D.nx } σ2 H2)
  | [] => False
def forTk (F : PySem.W.Frag) (g : TG) (tb : TS) (D : Ends) : KK := fun σ vs H => match vs with
  | x :: _ => ∃ a, x = .ref a ∧ (∃ xs, SqT F H a xs) ∧ ∃ W : Nat → Nat → L2.St → Hp → Prop, (∃ m, W 0 m σ H) ∧ ∀ i m σ H, W i m σ H →
      ((Itt F a).stop i H ∧ D.nx σ H) ∨ ((Itt F a).go i H ∧ ∃ N : L2.St → Hp → Prop, (∀ σ' H', N σ' H' → ∃ m', m' < m ∧ W (i + 1) m' σ' H') ∧ ∀ x H', (Itt F a).yld i H x H' → g x σ H' fun σ2 H2 => tb { D with nx := N, ct := N, bk := D.nx } σ2 H2)
  | [] => False
def forRk (g : TG) (tb : TS) (D : Ends) (us : List V) : KK := fun σ _ H => ∃ j : Int, us = [.int j] ∧ -(2 ^ 62) ≤ j ∧ j < 2 ^ 62 ∧ ∃ W : Nat → Nat → L2.St → Hp → Prop, (∃ m, W 0 m σ H) ∧ ∀ i m σ H, W i m σ H →
      ((Itr 0 j.toNat).stop i H ∧ D.nx σ H) ∨ ((Itr 0 j.toNat).go i H ∧ ∃ N : L2.St → Hp → Prop, (∀ σ' H', N σ' H' → ∃ m', m' < m ∧ W (i + 1) m' σ' H') ∧ ∀ x H', (Itr 0 j.toNat).yld i H x H' → g x σ H' fun σ2 H2 => tb { D with nx := N, ct := N, bk := D.nx } σ2 H2)
def forR2k (g : TG) (tb : TS) (D : Ends) (us : List V) : KK := fun σ _ H => ∃ i j : Int, us = [.int i, .int j] ∧ (-(2 ^ 62) ≤ i ∧ i < 2 ^ 62 ∧ -(2 ^ 62) ≤ j ∧ j < 2 ^ 62) ∧ ∃ W : Nat → Nat → L2.St → Hp → Prop, (∃ m, W 0 m σ H) ∧ ∀ k m σ H, W k m σ H →
      ((Itr i (j - i).toNat).stop k H ∧ D.nx σ H) ∨ ((Itr i (j - i).toNat).go k H ∧ ∃ N : L2.St → Hp → Prop, (∀ σ' H', N σ' H' → ∃ m', m' < m ∧ W (k + 1) m' σ' H') ∧ ∀ x H', (Itr i (j - i).toNat).yld k H x H' → g x σ H' fun σ2 H2 => tb { D with nx := N, ct := N, bk := D.nx } σ2 H2)
section
variable {L : Lk} {rs : List (Option R)} {st as : List R} {os fr : List Own} {K : KK} {F : PySem.W.Frag} {te : TE} {ta : TA} {g : TG} {tb : TS} {D : Ends} {i : Nat} {q : R}
theorem k_for (h : Gk L rs st os (evk te (forLk F g tb D))) : Gk L rs st os (stk (tFor (iList F te) g tb) D) := h
theorem k_forT (h : Gk L rs st os (evk te (forTk F g tb D))) : Gk L rs st os (stk (tFor (iTup F te) g tb) D) := h
theorem k_forR (h : Gk L rs st os (ak ta (forRk g tb D))) : Gk L rs st os (stk (tFor (iRng1 ta) g tb) D) := fun σ vs H s => h σ vs H s
theorem k_forR2 (h : Gk L rs st os (ak ta (forR2k g tb D))) : Gk L rs st os (stk (tFor (iRng2 ta) g tb) D) := fun σ vs H s => h σ vs H s
theorem k_tgn (h : Gk L rs st os (setk i D)) : Gk L rs st os (tgk (gName i) D) := fun σ vs H s => by
  have := h σ vs H s
  cases vs <;> exact this
/-- another state that says the same or less -/
def Imp (L : Lk) (rs : List (Option R)) (st : List R) (os : List Own) (rs' : List (Option R)) (st' : List R) (os' : List Own) : Prop := ∀ σ vs H, S L rs st os σ vs H → S L rs' st' os' σ vs H
theorem Imp.gk {rs' : List (Option R)} {st' : List R} {os' : List Own} (i : Imp L rs st os rs' st' os') (h : Gk L rs' st' os' K) : Gk L rs st os K := fun σ vs H s => h σ vs H (i σ vs H s)
/-- slots: the second says the same or less -/
inductive Le : List (Option R) → List (Option R) → Prop where
  | nil : Le [] []
  | drop {a : Option R} {l m : List (Option R)} : Le l m → Le (a :: l) (none :: m)
  | keep {a : Option R} {l m : List (Option R)} : Le l m → Le (a :: l) (a :: m)
  | eq {a b : R} {l m : List (Option R)} : a = b → Le l m → Le (some a :: l) (some b :: m)
  | imp {a b : R} {l m : List (Option R)} : (∀ B v, a.p B v → b.p B v) → Le l m → Le (some a :: l) (some b :: m)
theorem Le.ok {B : Hp} : ∀ {l m : List (Option R)} {σ : L2.St}, Le l m → Paired (slotOk B) l σ → Paired (slotOk B) m σ
  | _, _, _, .nil, h => h
  | _, _, _, .drop t, .cons _ h => .cons trivial (t.ok h)
  | _, _, _, .keep t, .cons r h => .cons r (t.ok h)
  | _, _, _, .eq e t, .cons r h => .cons (e ▸ r) (t.ok h)
  | _, _, _, .imp f t, .cons ⟨v, hv, r⟩ h => .cons ⟨v, hv, f _ _ r⟩ (t.ok h)
theorem Le.refl : ∀ l : List (Option R), Le l l
  | [] => .nil
  | _ :: l => .keep (Le.refl l)
theorem k_le {rs' : List (Option R)} {os' : List Own} (l : Le rs rs') (eo : os = os') (h : Gk L rs' st os' K) : Gk L rs st os K := fun σ vs H s => by
  subst eo
  obtain ⟨B, hs, c, ho, hr, hst⟩ := s
  exact h σ vs H ⟨B, hs, c, ho, l.ok hr, hst⟩

/-- for over a list that stays: T the data of a turn, J what is true of them -/
theorem k_forL {q0 : R} {qs : List R} [sl : StL F q0 qs] {T : Type} (J : Nat → T → Prop) (rsF : T → List (Option R)) (osF : T → List Own) (s0 : T) (h0 : J 0 s0) (l0 : Le rs (rsF s0)) (o0 : os = osF s0)
    (turn : ∀ (i : Nat) (q gh : R) (s : T) (N : L2.St → Hp → Prop), qs[i]? = some q → J i s → (∀ s', J (i + 1) s' → Gk L (rsF s') (gh :: st) (osF s') (fun σ _ H => N σ H)) → Gk L (rsF s) (q :: gh :: st) (osF s) (tgk g (Dn tb (Dl N D))))
    (done : ∀ s, J qs.length s → Gk L (rsF s) st (osF s) (nxk D)) : Gk L rs (q0 :: st) os (forLk F g tb D) := fun σ vs H s => by
  obtain ⟨B, hs, c, ho, hr, hst⟩ := s
  cases hst with
  | @cons _ x _ vs h1 h2 =>
    obtain ⟨a, ws, rfl, hl, hw⟩ := sl.get h1
    have elen : qs.length = ws.length := AllR.len hw
    refine ⟨a, rfl, ⟨ws, c.sqL hl⟩, for_list (K := F) (a := a) (xs := ws) (fun i σ H => ∃ s vs', J i s ∧ S L (rsF s) (rLv F a ws qs :: st) (osF s) σ vs' H) ⟨s0, _, h0, B, hs, c, by rw [← o0]; exact ho, l0.ok hr, .cons (b := .non) ⟨rfl, hl, hw⟩ h2⟩ ?_ ?_ ?_⟩
    · rintro i σ H hi ⟨s, vs', j, B, hs, c, ho, hr, hst⟩
      cases hst with
      | cons h1 h2 => exact c.sqL h1.2.1
    · rintro i x σ H hx ⟨s, vs', j, B, hs, c, ho, hr, hst⟩
      cases hst with
      | cons h1 h2 =>
        have hi : i < qs.length := by rw [elen]; exact (List.getElem?_eq_some_iff.mp hx).1
        have e1 : qs[i]? = some qs[i] := List.getElem?_eq_getElem hi
        obtain ⟨v, hv, hq⟩ := pget h1.2.2 e1
        rw [hx] at hv; cases hv
        exact turn i _ (rLv F a ws qs) s (fun σ H => ∃ s vs', J (i + 1) s ∧ S L (rsF s) (rLv F a ws qs :: st) (osF s) σ vs' H) e1 j
          (fun s' j' σ vs' H' z => ⟨s', vs', j', z⟩) σ _ H ⟨B, hs, c, ho, hr, .cons hq (.cons h1 h2)⟩
    · rintro σ H ⟨s, vs', j, B, hs, c, ho, hr, hst⟩
      cases hst with
      | cons h1 h2 => exact done s (by rw [elen]; exact j) σ _ H ⟨B, hs, c, ho, hr, h2⟩
/-- over an own list that the body leaves as it is -/
theorem k_forO {a : Addr} {qs : List R} {T : Type} (j0 : Nat) (J : Nat → T → Prop) (rsF : T → List (Option R)) (osF : T → List Own) (s0 : T) (h0 : J 0 s0) (l0 : Le rs (rsF s0)) (o0 : os = osF s0) (hO : ∀ s, (osF s)[j0]? = some (oLs a qs))
    (turn : ∀ (i : Nat) (q : R) (s : T) (N : L2.St → Hp → Prop), qs[i]? = some q → J i s → (∀ s', J (i + 1) s' → Gk L (rsF s') st (osF s') (fun σ _ H => N σ H)) → Gk L (rsF s) (q :: st) (osF s) (tgk g (Dn tb (Dl N D))))
    (done : ∀ s, J qs.length s → Gk L (rsF s) st (osF s) (nxk D)) : Gk L rs (rA a :: st) os (forLk F g tb D) := fun σ vs H s => by
  obtain ⟨B, hs, c, ho, hr, hst⟩ := s
  cases hst with
  | @cons _ x _ vs h1 h2 =>
    subst o0
    obtain ⟨gg, hg, ws0, rfl, hw0⟩ := pget ho (hO s0)
    have elen : qs.length = ws0.length := AllR.len hw0
    rw [show x = V.ref a from h1]
    let W : Nat → L2.St → Hp → Prop := fun i σ H => ∃ s vs' B hs, J i s ∧ Cur L B hs H ∧ Paired (fun O h => Own.p O B h) (osF s) hs ∧ Paired (slotOk B) (rsF s) σ ∧ Paired (fun r v => R.p r B v) st vs'
    have get : ∀ i σ H, W i σ H → ∃ ws, H a = some (.lst ws) ∧ ws.length = qs.length := fun i σ H ⟨s, vs', B, hs, j, c, ho, hr, hst⟩ => by
      obtain ⟨gg, hg, ws, rfl, hw⟩ := pget ho (hO s)
      exact ⟨ws, c.own _ (c.mem hg) a _ sgl_same, (AllR.len hw).symm⟩
    refine ⟨a, rfl, ⟨ws0, .of (c.own _ (c.mem hg) a _ sgl_same)⟩, fun i m σ H => m = qs.length - i ∧ i ≤ qs.length ∧ W i σ H, ⟨_, rfl, Nat.zero_le _, s0, vs, B, hs, h0, c, ho, l0.ok hr, h2⟩, ?_⟩
    rintro i m σ H ⟨rfl, hi, w⟩
    obtain ⟨ws, hH, hlw⟩ := get i σ H w
    by_cases hlt : i < qs.length
    · refine .inr ⟨⟨ws, ws[i]'(by omega), .of hH, by simp [hlw, hlt]⟩, W (i + 1), fun σ' H' p' => ⟨qs.length - (i + 1), by omega, rfl, hlt, p'⟩, fun x H' y => ?_⟩
      obtain ⟨e, y⟩ := y
      subst e
      obtain ⟨s, vs', B, hs, j, c, ho, hr, hst⟩ := w
      obtain ⟨gg, hg, ws', rfl, hw⟩ := pget ho (hO s)
      have hH' := c.own _ (c.mem hg) a _ sgl_same
      have e1 : qs[i]? = some qs[i] := List.getElem?_eq_getElem hlt
      obtain ⟨v, hv, hq⟩ := pget hw e1
      have ev := y ws' (.of hH')
      rw [hv] at ev
      cases ev
      exact turn i _ s (W (i + 1)) e1 j (fun s' j' σ vs' H' z => by
        obtain ⟨B', hs', c', ho', hr', hst'⟩ := z
        exact ⟨s', vs', B', hs', j', c', ho', hr', hst'⟩) σ (x :: vs') _ ⟨B, hs, c, ho, hr, .cons hq hst⟩
    · have e : i = qs.length := by omega
      subst e
      obtain ⟨s, vs', B, hs, j, c, ho, hr, hst⟩ := w
      exact .inl ⟨⟨ws, .of hH, by omega⟩, done s j σ _ H ⟨B, hs, c, ho, hr, hst⟩⟩
theorem k_forTu {q0 : R} {qs : List R} [sl : StT F q0 qs] {T : Type} (J : Nat → T → Prop) (rsF : T → List (Option R)) (osF : T → List Own) (s0 : T) (h0 : J 0 s0) (l0 : Le rs (rsF s0)) (o0 : os = osF s0)
    (turn : ∀ (i : Nat) (q gh : R) (s : T) (N : L2.St → Hp → Prop), qs[i]? = some q → J i s → (∀ s', J (i + 1) s' → Gk L (rsF s') (gh :: st) (osF s') (fun σ _ H => N σ H)) → Gk L (rsF s) (q :: gh :: st) (osF s) (tgk g (Dn tb (Dl N D))))
    (done : ∀ s, J qs.length s → Gk L (rsF s) st (osF s) (nxk D)) : Gk L rs (q0 :: st) os (forTk F g tb D) := fun σ vs H s => by
  obtain ⟨B, hs, c, ho, hr, hst⟩ := s
  cases hst with
  | @cons _ x _ vs h1 h2 =>
    obtain ⟨a, ws, rfl, hl, hw⟩ := sl.get h1
    have elen : qs.length = ws.length := AllR.len hw
    refine ⟨a, rfl, ⟨ws, c.sqT hl⟩, for_tup (K := F) (a := a) (xs := ws) (fun i σ H => ∃ s vs', J i s ∧ S L (rsF s) (rTv F a ws qs :: st) (osF s) σ vs' H) ⟨s0, _, h0, B, hs, c, by rw [← o0]; exact ho, l0.ok hr, .cons (b := .non) ⟨rfl, hl, hw⟩ h2⟩ ?_ ?_ ?_⟩
    · rintro i σ H hi ⟨s, vs', j, B, hs, c, ho, hr, hst⟩
      cases hst with
      | cons h1 h2 => exact c.sqT h1.2.1
    · rintro i x σ H hx ⟨s, vs', j, B, hs, c, ho, hr, hst⟩
      cases hst with
      | cons h1 h2 =>
        have hi : i < qs.length := by rw [elen]; exact (List.getElem?_eq_some_iff.mp hx).1
        have e1 : qs[i]? = some qs[i] := List.getElem?_eq_getElem hi
        obtain ⟨v, hv, hq⟩ := pget h1.2.2 e1
        rw [hx] at hv; cases hv
        exact turn i _ (rTv F a ws qs) s (fun σ H => ∃ s vs', J (i + 1) s ∧ S L (rsF s) (rTv F a ws qs :: st) (osF s) σ vs' H) e1 j
          (fun s' j' σ vs' H' z => ⟨s', vs', j', z⟩) σ _ H ⟨B, hs, c, ho, hr, .cons hq (.cons h1 h2)⟩
    · rintro σ H ⟨s, vs', j, B, hs, c, ho, hr, hst⟩
      cases hst with
      | cons h1 h2 => exact done s (by rw [elen]; exact j) σ _ H ⟨B, hs, c, ho, hr, h2⟩
theorem rng_core {lo : Int} {n : Nat} {T : Type} (J : Nat → T → Prop) (rsF : T → List (Option R)) (osF : T → List Own) (s0 : T) (h0 : J 0 s0) (l0 : Le rs (rsF s0)) (o0 : os = osF s0)
    (turn : ∀ (i : Nat) (s : T) (N : L2.St → Hp → Prop), i < n → J i s → (∀ s', J (i + 1) s' → Gk L (rsF s') st (osF s') (fun σ _ H => N σ H)) → Gk L (rsF s) (rI (lo + i) :: st) (osF s) (tgk g (Dn tb (Dl N D))))
    (done : ∀ s, J n s → Gk L (rsF s) st (osF s) (nxk D)) {σ : L2.St} {vs : List V} {H : Hp} (s : S L rs st os σ vs H) :
    ∃ W : Nat → Nat → L2.St → Hp → Prop, (∃ m, W 0 m σ H) ∧ ∀ i m σ H, W i m σ H →
      ((Itr lo n).stop i H ∧ D.nx σ H) ∨ ((Itr lo n).go i H ∧ ∃ N : L2.St → Hp → Prop, (∀ σ' H', N σ' H' → ∃ m', m' < m ∧ W (i + 1) m' σ' H') ∧ ∀ x H', (Itr lo n).yld i H x H' → g x σ H' fun σ2 H2 => tb { D with nx := N, ct := N, bk := D.nx } σ2 H2) := by
  refine for_range (lo := lo) (n := n) (fun i σ H => ∃ s vs', J i s ∧ S L (rsF s) st (osF s) σ vs' H) ?_ ?_ ?_
  · obtain ⟨B, hs, c, ho, hr, hst⟩ := s
    exact ⟨s0, vs, h0, B, hs, c, by rw [← o0]; exact ho, l0.ok hr, hst⟩
  · rintro i σ H hi ⟨s, vs', j, B, hs, c, ho, hr, hst⟩
    exact turn i s (fun σ H => ∃ s vs', J (i + 1) s ∧ S L (rsF s) st (osF s) σ vs' H) hi j (fun s' j' σ vs' H' z => ⟨s', vs', j', z⟩) σ (.int (lo + i) :: vs') H ⟨B, hs, c, ho, hr, .cons rfl hst⟩
  · rintro σ H ⟨s, vs', j, z⟩
    exact done s j σ _ H z
theorem k_forRn {z : Int} {T : Type} (J : Nat → T → Prop) (rsF : T → List (Option R)) (osF : T → List Own) (s0 : T) (hz : -(2 ^ 62) ≤ z ∧ z < 2 ^ 62) (h0 : J 0 s0) (l0 : Le rs (rsF s0)) (o0 : os = osF s0)
    (turn : ∀ (i : Nat) (s : T) (N : L2.St → Hp → Prop), i < z.toNat → J i s → (∀ s', J (i + 1) s' → Gk L (rsF s') st (osF s') (fun σ _ H => N σ H)) → Gk L (rsF s) (rI (0 + i) :: st) (osF s) (tgk g (Dn tb (Dl N D))))
    (done : ∀ s, J z.toNat s → Gk L (rsF s) st (osF s) (nxk D)) : GA L rs [rI z] st os (forRk g tb D) := fun σ us vs H hl s => by
  obtain ⟨B, hs, c, ho, hr, h1, h2⟩ := S.args hl s
  cases h1 with
  | cons e1 t =>
    cases t
    exact ⟨z, by rw [show _ = V.int z from e1], hz.1, hz.2, rng_core J rsF osF s0 h0 l0 o0 turn done ⟨B, hs, c, ho, hr, h2⟩⟩
theorem k_forR2n {y z : Int} {T : Type} (J : Nat → T → Prop) (rsF : T → List (Option R)) (osF : T → List Own) (s0 : T) (hz : -(2 ^ 62) ≤ y ∧ y < 2 ^ 62 ∧ -(2 ^ 62) ≤ z ∧ z < 2 ^ 62) (h0 : J 0 s0) (l0 : Le rs (rsF s0)) (o0 : os = osF s0)
    (turn : ∀ (i : Nat) (s : T) (N : L2.St → Hp → Prop), i < (z - y).toNat → J i s → (∀ s', J (i + 1) s' → Gk L (rsF s') st (osF s') (fun σ _ H => N σ H)) → Gk L (rsF s) (rI (y + i) :: st) (osF s) (tgk g (Dn tb (Dl N D))))
    (done : ∀ s, J (z - y).toNat s → Gk L (rsF s) st (osF s) (nxk D)) : GA L rs [rI y, rI z] st os (forR2k g tb D) := fun σ us vs H hl s => by
  obtain ⟨B, hs, c, ho, hr, h1, h2⟩ := S.args hl s
  cases h1 with
  | cons e1 t =>
    cases t with
    | cons e2 t =>
      cases t
      exact ⟨y, z, by rw [show _ = V.int y from e1, show _ = V.int z from e2], hz, rng_core J rsF osF s0 h0 l0 o0 turn done ⟨B, hs, c, ho, hr, h2⟩⟩
/-- behind a turn -/
theorem k_turn {T : Type} {J : Nat → T → Prop} {rsF : T → List (Option R)} {osF : T → List Own} {n : Nat} {N : L2.St → Hp → Prop} (hN : ∀ s', J n s' → Gk L (rsF s') st (osF s') (fun σ _ H => N σ H)) (s' : T) (l : Le rs (rsF s')) (eo : os = osF s') (j : J n s') : Gk L rs st os (nxk (Dl N D)) :=
  k_le l eo (hN s' j)
theorem k_turnC {T : Type} {J : Nat → T → Prop} {rsF : T → List (Option R)} {osF : T → List Own} {n : Nat} {N : L2.St → Hp → Prop} (hN : ∀ s', J n s' → Gk L (rsF s') st (osF s') (fun σ _ H => N σ H)) (s' : T) (l : Le rs (rsF s')) (eo : os = osF s') (j : J n s') : Gk L rs st os (ctk (Dl N D)) :=
  k_le l eo (hN s' j)
theorem k_rtL {N : L2.St → Hp → Prop} (h : Gk L rs st os (rtk D)) : Gk L rs st os (rtk (Dl N D)) := h
theorem k_bkL {N : L2.St → Hp → Prop} (h : Gk L rs st os (nxk D)) : Gk L rs st os (bkk (Dl N D)) := h

/-! ### while -/
def wk (W : Nat → L2.St → Hp → Prop) (m : Nat) (tb : TS) (D : Ends) (b : Bool) : KK := fun σ _ H => if b = true then ∃ N : L2.St → Hp → Prop, (∀ σ' H', N σ' H' → ∃ m', m' < m ∧ W m' σ' H') ∧ tb { D with nx := N, ct := N, bk := D.nx } σ H else D.nx σ H
theorem k_while {c : TT} {T : Type} (J : T → Prop) (μ : T → Nat) (rsF : T → List (Option R)) (osF : T → List Own) (s0 : T) (h0 : J s0) (l0 : Le rs (rsF s0)) (o0 : os = osF s0)
    (turn : ∀ (s : T) (N : L2.St → Hp → Prop) (K2 : Bool → KK), J s → (∀ s', J s' ∧ μ s' < μ s → Gk L (rsF s') st (osF s') (fun σ _ H => N σ H)) →
      (∀ b rs st os, (b = true → Gk L rs st os (stk tb (Dl N D))) → (b = false → Gk L rs st os (nxk D)) → Gk L rs st os (K2 b)) → Gk L (rsF s) st (osF s) (tk c K2)) : Gk L rs st os (stk (tWhile c tb) D) := fun σ vs H z => by
  obtain ⟨B, hs, cu, ho, hr, hst⟩ := z
  refine ⟨fun m σ H => ∃ s vs', m = μ s ∧ J s ∧ S L (rsF s) st (osF s) σ vs' H, ⟨_, s0, vs, rfl, h0, B, hs, cu, by rw [← o0]; exact ho, l0.ok hr, hst⟩, ?_⟩
  rintro m σ H ⟨s, vs', rfl, j, z⟩
  refine turn s (fun σ' H' => ∃ m', m' < μ s ∧ ∃ s vs', m' = μ s ∧ J s ∧ S L (rsF s) st (osF s) σ' vs' H') (wk (fun m σ H => ∃ s vs', m = μ s ∧ J s ∧ S L (rsF s) st (osF s) σ vs' H) (μ s) tb D) j (fun s' hs' σ vs H z => ⟨_, hs'.2, s', vs, rfl, hs'.1, z⟩) (fun b rs st os h1 h2 σ vs H z => ?_) σ vs' H z
  cases b with
  | true =>
    show (if true = true then _ else _)
    rw [if_pos rfl]
    exact ⟨_, fun _ _ q => q, h1 rfl σ vs H z⟩
  | false =>
    show (if false = true then _ else _)
    rw [if_neg Bool.false_ne_true]
    exact h2 rfl σ vs H z
theorem k_turnW {T : Type} {J : T → Prop} {rsF : T → List (Option R)} {osF : T → List Own} {N : L2.St → Hp → Prop} (hN : ∀ s', J s' → Gk L (rsF s') st (osF s') (fun σ _ H => N σ H)) (s' : T) (l : Le rs (rsF s')) (eo : os = osF s') (j : J s') : Gk L rs st os (nxk (Dl N D)) :=
  k_le l eo (hN s' j)
end
end G
/-! GL4: classes that compute on written lists; items, lengths, append, pop, stores, slices, texts. Own work. -/
namespace G
open PySem PySem.Spec PyProof.Rows L2

/-! ### written lists -/
class GetR (rs : List (Option R)) (i : Nat) (q : outParam R) : Prop where
  e : rs[i]? = some (some q)
instance {q : R} {rs : List (Option R)} : GetR (some q :: rs) 0 q := ⟨rfl⟩
instance {q : R} {x : Option R} {rs : List (Option R)} {i : Nat} [h : GetR rs i q] : GetR (x :: rs) (i + 1) q := ⟨by simpa using h.e⟩
class SetR (rs : List (Option R)) (i : Nat) (q : Option R) (rs' : outParam (List (Option R))) : Prop where
  e : rs.set i q = rs'
instance {q x : Option R} {rs : List (Option R)} : SetR (x :: rs) 0 q (q :: rs) := ⟨rfl⟩
instance {q x : Option R} {rs rs' : List (Option R)} {i : Nat} [h : SetR rs i q rs'] : SetR (x :: rs) (i + 1) q (x :: rs') := ⟨by rw [List.set_cons_succ, h.e]⟩
class SetO (os : List Own) (i : Nat) (q : Own) (os' : outParam (List Own)) : Prop where
  e : os.set i q = os'
instance {q x : Own} {os : List Own} : SetO (x :: os) 0 q (q :: os) := ⟨rfl⟩
instance {q x : Own} {os os' : List Own} {i : Nat} [h : SetO os i q os'] : SetO (x :: os) (i + 1) q (x :: os') := ⟨by rw [List.set_cons_succ, h.e]⟩
class EraO (os : List Own) (i : Nat) (os' : outParam (List Own)) : Prop where
  e : os.eraseIdx i = os'
instance {x : Own} {os : List Own} : EraO (x :: os) 0 os := ⟨rfl⟩
instance {x : Own} {os os' : List Own} {i : Nat} [h : EraO os i os'] : EraO (x :: os) (i + 1) (x :: os') := ⟨by rw [List.eraseIdx_cons_succ, h.e]⟩
/-- the own list at a -/
class AtL (os : List Own) (a : Addr) (qs : outParam (List R)) (j : outParam Nat) : Prop where
  e : os[j]? = some (oLs a qs)
instance (priority := high) {a : Addr} {qs : List R} {os : List Own} : AtL (oLs a qs :: os) a qs 0 := ⟨rfl⟩
instance {a : Addr} {qs : List R} {O : Own} {os : List Own} {j : Nat} [h : AtL os a qs j] : AtL (O :: os) a qs (j + 1) := ⟨by simpa using h.e⟩

section
variable {L : Lk} {rs rs' : List (Option R)} {st : List R} {os os' : List Own} {K : KK} {K2 : Bool → KK} {D : Ends} {F : PySem.W.Frag} {i : Nat} {q : R} {a : Addr} {qs : List R} {j : Nat}
theorem n_var [h : GetR rs i q] (k : Gk L rs (q :: st) os K) : Gk L rs st os (evk (tVar i) K) := k_var h.e k
theorem n_set [h : SetR rs i (some q) rs'] (k : Gk L rs' st os (nxk D)) : Gk L rs (q :: st) os (setk i D) := k_set (h.e.symm ▸ k)
theorem n_forget (j : Nat) [h : EraO os j os'] (k : Gk L rs st os' K) : Gk L rs st os K := k_forget j (h.e.symm ▸ k)
theorem n_front (j : Nat) {O : Own} {os' : List Own} (e : os[j]? = some O) [h : EraO os j os'] (k : Gk L rs st (O :: os') K) : Gk L rs st os K := k_front j e (h.e.symm ▸ k)
/-- the own list of a slot stays from now on -/
theorem n_frzS (i : Nat) [g : GetR rs i (rA a)] [h : AtL os a qs j] [s : SetR rs i (some (rLs qs)) rs'] [e : EraO os j os'] (k : Gk L rs' st os' K) : Gk L rs st os K := k_frzS i j h.e g.e (s.e.symm ▸ e.e.symm ▸ k)
theorem n_frzT [h : AtL os a qs j] [e : EraO os j os'] (k : Gk L rs (rLs qs :: st) os' K) : Gk L rs (rA a :: st) os K := k_frzL j h.e (e.e.symm ▸ k)
theorem S.atO {σ : L2.St} {vs : List V} {H : Hp} (s : S L rs st os σ vs H) (e : os[j]? = some (oLs a qs)) : ∃ B hs ws, Cur L B hs H ∧ Paired (fun O h => Own.p O B h) os hs ∧ Paired (slotOk B) rs σ ∧ AllR B st vs ∧ hs[j]? = some (sgl a (.lst ws)) ∧ AllR B qs ws ∧ H a = some (.lst ws) := by
  obtain ⟨B, hs, c, ho, hr, hst⟩ := s
  obtain ⟨g, hg, ws, rfl, hw⟩ := pget ho e
  exact ⟨B, hs, ws, c, ho, hr, hst, hg, hw, c.own _ (c.mem hg) a _ sgl_same⟩
/-- an own list gets other items -/
theorem S.setO {σ : L2.St} {vs : List V} {B : Hp} {hs : List Hp} {H : Hp} {ws ws' : List V} {qs' : List R} (c : Cur L B hs H) (ho : Paired (fun O h => Own.p O B h) os hs) (hr : Paired (slotOk B) rs σ) (hst : AllR B st vs) (hg : hs[j]? = some (sgl a (.lst ws))) (hw : AllR B qs' ws') :
    S L rs st (os.set j (oLs a qs')) σ vs (upd H a (.lst ws')) := ⟨B, _, c.mut hg, pset ⟨ws', rfl, hw⟩ j ho, hr, hst⟩

/-- lists that are read: they stay, or they are own -/
class SeqL (F : PySem.W.Frag) (os : List Own) (q : R) (qs : outParam (List R)) : Prop where
  get : ∀ {L : Lk} {B : Hp} {hs : List Hp} {H : Hp} {v : V}, Cur L B hs H → Paired (fun O h => Own.p O B h) os hs → q.p B v → ∃ a vs, v = .ref a ∧ SqL F H a vs ∧ AllR B qs vs
instance [h : StL F q qs] : SeqL F os q qs := ⟨fun c _ hq => let ⟨a, vs, h1, h2, h3⟩ := h.get hq; ⟨a, vs, h1, c.sqL h2, h3⟩⟩
instance [h : AtL os a qs j] : SeqL F os (rA a) qs := ⟨fun c ho hq => by
  obtain ⟨g, hg, ws, rfl, hw⟩ := pget ho h.e
  exact ⟨a, ws, hq, .of (c.own _ (c.mem hg) a _ sgl_same), hw⟩⟩
/-! ### items -/
theorem atI_all {B : Hp} {vs : List V} {k : Int} (h : AllR B qs vs) (e : atI qs k = some q) : ∃ v, atI vs k = some v ∧ q.p B v := by
  unfold atI at e ⊢
  rw [← AllR.len h]
  cases z : ixN qs.length k with
  | none => rw [z] at e; cases e
  | some n =>
    rw [z] at e
    obtain ⟨v, h1, h2⟩ := pget h (show qs[n]? = some q from e)
    exact ⟨v, h1, h2⟩
theorem atI_map {α : Type} [Inhabited α] (t : α → R) (xs : List α) {k : Int} (h : 0 ≤ k ∧ k < xs.length) : atI (xs.map t) k = some (t (xs.getD k.toNat default)) := by
  have hk : k.toNat < xs.length := by omega
  unfold atI ixN
  rw [if_pos h.1, List.length_map, if_pos h.2]
  show (xs.map t)[k.toNat]? = _
  rw [List.getElem?_map, List.getElem?_eq_getElem hk, List.getD_eq_getElem?_getD, List.getElem?_eq_getElem hk]
  rfl
theorem k_ixL {q0 : R} [sl : SeqL F os q0 qs] {k : Int} (e : atI qs k = some q) (h : Gk L rs (q :: st) os K) : Gk L rs (rI k :: q0 :: st) os (opk (rIx F) K) := fun σ vs H s => by
  obtain ⟨B, hs, c, ho, hr, hst⟩ := s
  cases hst with
  | cons g1 g2 =>
    cases g2 with
    | cons g3 g4 =>
      obtain ⟨a, ws, rfl, hl, hw⟩ := sl.get c ho g3
      obtain ⟨v, h1, h2⟩ := atI_all hw e
      exact .inl ⟨a, ws, k, v, rfl, g1, hl, h1, h σ _ H ⟨B, hs, c, ho, hr, .cons h2 g4⟩⟩
theorem k_ixT {q0 : R} [sl : StT F q0 qs] {k : Int} (e : atI qs k = some q) (h : Gk L rs (q :: st) os K) : Gk L rs (rI k :: q0 :: st) os (opk (rIx F) K) :=
  k_op1 (q3 := q) (fun B hs H x y c hx hy => by
    obtain ⟨a, vs, rfl, hl, hw⟩ := sl.get hx
    obtain ⟨v, h1, h2⟩ := atI_all hw e
    exact ⟨v, h2, fun Q z => .inr (.inl ⟨a, vs, k, v, rfl, hy, c.sqT hl, h1, z⟩)⟩) h
theorem k_ixLm {α : Type} [Inhabited α] {t : α → R} {xs : List α} {q0 : R} [sl : SeqL F os q0 (xs.map t)] {k : Int} (hk : 0 ≤ k ∧ k < xs.length) (h : Gk L rs (t (xs.getD k.toNat default) :: st) os K) : Gk L rs (rI k :: q0 :: st) os (opk (rIx F) K) := k_ixL (sl := sl) (atI_map t xs hk) h
theorem k_ixTm {α : Type} [Inhabited α] {t : α → R} {xs : List α} {q0 : R} [sl : StT F q0 (xs.map t)] {k : Int} (hk : 0 ≤ k ∧ k < xs.length) (h : Gk L rs (t (xs.getD k.toNat default) :: st) os K) : Gk L rs (rI k :: q0 :: st) os (opk (rIx F) K) := k_ixT (sl := sl) (atI_map t xs hk) h
theorem k_ixS {k : Int} {x : Str} {c : Nat} (hl : x.length ≤ 100000) (e : atI x.cps.toList k = some c) (h : Gk L rs (rS ⟨#[c]⟩ :: st) os K) : Gk L rs (rI k :: rS x :: st) os (opk (rIx F) K) :=
  k_opV (fun H Q z => .inr (.inr ⟨x, k, c, rfl, rfl, Nat.le_trans hl (by decide), e, z⟩)) h

/-! ### builtins by name -/
def cbk (r : List V → Hp → VK → Prop) (K : KK) (us : List V) : KK := fun σ vs H => r us H fun z H' => K σ (z :: vs) H'
theorem k_cb {r : List V → Hp → VK → Prop} {ta : TA} (h : Gk L rs st os (ak ta (cbk r K))) : Gk L rs st os (evk (tCB r ta) K) := h
/-- a builtin that only looks -/
theorem k_cb1 {r : List V → Hp → VK → Prop} {as : List R} (hr : ∀ (B : Hp) (hs : List Hp) (H : Hp) (us : List V), Cur L B hs H → AllR B as us → ∃ z, q.p B z ∧ ∀ Q : VK, Q z H → r us H Q) (h : Gk L rs (q :: st) os K) : GA L rs as st os (cbk r K) := fun σ us vs H hl s => by
  obtain ⟨B, hs, c, ho, hrr, h1, h2⟩ := S.args hl s
  obtain ⟨z, hz, hk⟩ := hr B hs H us c h1
  exact hk _ (h σ _ H ⟨B, hs, c, ho, hrr, .cons hz h2⟩)
theorem k_cbV {r : List V → Hp → VK → Prop} {v z : V} (hr : ∀ (H : Hp) (Q : VK), Q z H → r [v] H Q) (h : Gk L rs (rV z :: st) os K) : GA L rs [rV v] st os (cbk r K) :=
  k_cb1 (q := rV z) (fun B hs H us c hu => ⟨z, rfl, fun Q w => by
    cases hu with
    | cons e t => cases t; rw [show _ = v from e]; exact hr H Q w⟩) h
def rLen (F : PySem.W.Frag) : List V → Hp → VK → Prop := fun xs H Q => ∃ x n, xs = [x] ∧ LenV F x H n ∧ Q (.int n) H
theorem c_len {X : Cx} : CallR X (.builtin "len") (rLen X.K) := call_len
theorem all1 {B : Hp} {q1 : R} {us : List V} (h : AllR B [q1] us) : ∃ v, us = [v] ∧ q1.p B v := by
  cases h with
  | cons e t => cases t; exact ⟨_, rfl, e⟩
theorem all2 {B : Hp} {q1 q2 : R} {us : List V} (h : AllR B [q1, q2] us) : ∃ v w, us = [v, w] ∧ q1.p B v ∧ q2.p B w := by
  cases h with
  | cons e t =>
    cases t with
    | cons e2 t => cases t; exact ⟨_, _, rfl, e, e2⟩
theorem k_lenL {q0 : R} [sl : SeqL F os q0 qs] (h : Gk L rs (rI qs.length :: st) os K) : GA L rs [q0] st os (cbk (rLen F) K) := fun σ us vs H hl s => by
  obtain ⟨B, hs, c, ho, hr, h1, h2⟩ := S.args hl s
  obtain ⟨v, rfl, e⟩ := all1 h1
  obtain ⟨a, ws, rfl, hl, hw⟩ := sl.get c ho e
  exact ⟨_, _, rfl, .inl ⟨ws, hl, by rw [AllR.len hw]⟩, h σ _ H ⟨B, hs, c, ho, hr, .cons rfl h2⟩⟩
theorem k_lenM {α : Type} {t : α → R} {xs : List α} {q0 : R} [sl : SeqL F os q0 (xs.map t)] (h : Gk L rs (rI xs.length :: st) os K) : GA L rs [q0] st os (cbk (rLen F) K) := k_lenL (sl := sl) (by rw [List.length_map]; exact h)
theorem k_lenMT {α : Type} {t : α → R} {xs : List α} {q0 : R} [sl : StT F q0 (xs.map t)] (h : Gk L rs (rI xs.length :: st) os K) : GA L rs [q0] st os (cbk (rLen F) K) := k_cb1 (q := rI xs.length) (fun B hs H us c hu => by
    obtain ⟨v, rfl, hq⟩ := all1 hu
    obtain ⟨a, ws, rfl, hl, hw⟩ := sl.get hq
    exact ⟨_, rfl, fun Q w => ⟨_, _, rfl, .inr ⟨ws, c.sqT hl, by rw [← AllR.len hw, List.length_map]⟩, w⟩⟩) h
theorem k_lenT {q0 : R} [sl : StT F q0 qs] (h : Gk L rs (rI qs.length :: st) os K) : GA L rs [q0] st os (cbk (rLen F) K) :=
  k_cb1 (q := rI qs.length) (fun B hs H us c hu => by
    obtain ⟨v, rfl, hq⟩ := all1 hu
    obtain ⟨a, ws, rfl, hl, hw⟩ := sl.get hq
    exact ⟨_, rfl, fun Q w => ⟨_, _, rfl, .inr ⟨ws, c.sqT hl, by rw [AllR.len hw]⟩, w⟩⟩) h
theorem k_lenS {x : Str} (hx : x.length ≤ 100000) (h : Gk L rs (rI x.length :: st) os K) : GA L rs [rS x] st os (cbk (rLen F) K) :=
  k_cbV (fun H Q w => ⟨_, _, rfl, ⟨Nat.le_trans hx (by decide), rfl⟩, w⟩) h
def rInt1 : List V → Hp → VK → Prop := fun xs H Q => (∃ i, xs = [.int i] ∧ Q (.int i) H) ∨ ∃ k, xs = [.bl k] ∧ Q (.int (if k then 1 else 0)) H
theorem c_int {X : Cx} : CallR X (.type "int") rInt1 := call_int1
theorem k_int {i : Int} (h : Gk L rs (rI i :: st) os K) : GA L rs [rI i] st os (cbk rInt1 K) := k_cbV (fun H Q w => .inl ⟨i, rfl, w⟩) h

/-! ### methods of lists -/
def bm1 (F : PySem.W.Frag) (T : String) (r : V → List V → Hp → VK → Prop) (t : TA) (K : KK) : KK := fun σ vs H => match vs with
  | x :: tl => tyV F T x H ∧ t σ H fun xs H2 => r x xs H2 fun z H' => K σ (z :: tl) H'
  | [] => False
def bm2 (r : V → List V → Hp → VK → Prop) (K : KK) (us : List V) : KK := fun σ vs H => match vs with
  | x :: tl => r x us H fun z H' => K σ (z :: tl) H'
  | [] => False
def bm0 (F : PySem.W.Frag) (T : String) (r : V → List V → Hp → VK → Prop) (K : KK) : KK := fun σ vs H => match vs with
  | x :: tl => tyV F T x H ∧ r x [] H fun z H' => K σ (z :: tl) H'
  | [] => False
theorem k_bm {T : String} {r : V → List V → Hp → VK → Prop} {to : TE} {t : TA} (h : Gk L rs st os (evk to (bm1 F T r t K))) : Gk L rs st os (evk (tBM F T r to t) K) := h
theorem k_bm0 {T : String} {r : V → List V → Hp → VK → Prop} {to : TE} (h : Gk L rs st os (evk to (bm0 F T r K))) : Gk L rs st os (evk (tBM0 F T r to) K) := h
theorem k_bmL {r : V → List V → Hp → VK → Prop} {t : TA} {q0 : R} [sl : SeqL F os q0 qs] (h : Gk L rs (q0 :: st) os (ak t (bm2 r K))) : Gk L rs (q0 :: st) os (bm1 F "list" r t K) := fun σ vs H s => by
  have q := h σ vs H s
  obtain ⟨B, hs, c, ho, hr, hst⟩ := s
  cases hst with
  | cons g1 g2 =>
    obtain ⟨a, ws, rfl, hl, hw⟩ := sl.get c ho g1
    exact ⟨.inl ⟨rfl, _, hl⟩, q⟩
theorem k_append [hj : AtL os a qs j] {q : R} [ho' : SetO os j (oLs a (qs ++ [q])) os'] (hn : qs.length ≤ 10000) (h : Gk L rs (rN :: st) os' K) : GA L rs [q] (rA a :: st) os (bm2 rAppend K) := fun σ us vs H hl s => by
  obtain ⟨B, hs, c, ho, hr, h1, h2⟩ := S.args hl s
  obtain ⟨g, hg, ws, rfl, hw⟩ := pget ho hj.e
  obtain ⟨v, rfl, e⟩ := all1 h1
  cases h2 with
  | cons g1 g2 =>
    rw [show _ = V.ref a from g1]
    have hz : ws.length ≤ 10000 := by rw [← AllR.len hw]; exact hn
    refine ⟨a, ws, v, rfl, rfl, c.own _ (c.mem hg) a _ sgl_same, Nat.lt_of_le_of_lt hz (by decide), h σ _ _ ?_⟩
    have q := S.setO (rs := rs) (st := rN :: st) c ho hr (.cons rfl g2) hg (qs' := qs ++ [q]) (ws' := ws ++ [v]) (papp hw (.cons e .nil))
    rw [ho'.e] at q
    exact q
theorem k_appendM {α : Type} {t : α → R} {xs : List α} {x : α} [hj : AtL os a (xs.map t) j] [ho' : SetO os j (oLs a ((xs ++ [x]).map t)) os'] (hn : xs.length ≤ 10000) (h : Gk L rs (rN :: st) os' K) : GA L rs [t x] (rA a :: st) os (bm2 rAppend K) := by
  have e : (xs ++ [x]).map t = xs.map t ++ [t x] := by rw [List.map_append]; rfl
  rw [e] at ho'
  exact k_append (hj := hj) (ho' := ho') (by rw [List.length_map]; exact hn) h
theorem k_popAt [hj : AtL os a qs j] {k : Int} {n : Nat} (hk : 0 ≤ k ∧ k < qs.length ∧ k < 100000) (en : n = k.toNat) (hq : qs[n]? = some q) [ho' : SetO os j (oLs a (qs.eraseIdx n)) os'] (h : Gk L rs (q :: st) os' K) : GA L rs [rI k] (rA a :: st) os (bm2 rPopAt K) := fun σ us vs H hl s => by
  subst en
  obtain ⟨B, hs, c, ho, hr, h1, h2⟩ := S.args hl s
  obtain ⟨g, hg, ws, rfl, hw⟩ := pget ho hj.e
  obtain ⟨v, rfl, e⟩ := all1 h1
  obtain ⟨y, hy, hyq⟩ := pget hw hq
  cases h2 with
  | cons g1 g2 =>
    rw [show _ = V.ref a from g1, show v = V.int k from e]
    refine ⟨a, ws, k, k.toNat, y, rfl, rfl, c.own _ (c.mem hg) a _ sgl_same, by omega, by omega, ?_, hy, h σ _ _ ?_⟩
    · have e1 := AllR.len hw
      have e2 : k < ws.length := by rw [← e1]; exact hk.2.1
      have e3 : (decide (0 ≤ k) && decide (k < (ws.length : Int))) = true := by rw [decide_eq_true hk.1, decide_eq_true e2]; rfl
      unfold seqIndex?
      simp only [if_neg (show ¬ k < 0 by omega)]
      rw [if_pos e3]
    · have q := S.setO (rs := rs) (st := q :: st) c ho hr (.cons hyq g2) hg (qs' := qs.eraseIdx k.toNat) (ws' := ws.eraseIdx k.toNat) (perase _ hw)
      rw [ho'.e] at q
      exact q
end
end G
/-! GL5: facts about values, instances, dicts, stores, operators of several kinds. Own work. -/
namespace G
open PySem PySem.Spec PyProof.Rows L2

/-! ### a fact about a value, kept beside -/
def oIs (v : V) (q : R) : Own := ⟨fun B h => (∀ a, h a = none) ∧ q.p B v, fun e ⟨h1, h2⟩ => ⟨h1, q.mono e h2⟩⟩
class AtIs (os : List Own) (v : V) (q : outParam R) (j : outParam Nat) : Prop where
  e : os[j]? = some (oIs v q)
instance (priority := high) {v : V} {q : R} {os : List Own} : AtIs (oIs v q :: os) v q 0 := ⟨rfl⟩
instance {v : V} {q : R} {O : Own} {os : List Own} {j : Nat} [h : AtIs os v q j] : AtIs (O :: os) v q (j + 1) := ⟨by simpa using h.e⟩
/-- a fact from the base -/
theorem AtIs.get {os : List Own} {v : V} {q : R} {j : Nat} (h : AtIs os v q j) {B : Hp} {hs : List Hp} (ho : Paired (fun O h => Own.p O B h) os hs) : q.p B v := by
  obtain ⟨g, _, _, hq⟩ := pget ho h.e
  exact hq
theorem emp_dj {h g : Hp} (e : ∀ a, h a = none) : Dj h g := fun a => .inl (e a)
theorem Cur.setE {L B hs H} (c : Cur L B hs H) {j : Nat} {h : Hp} (e : ∀ a, h a = none) : Cur L B (hs.set j h) H := by
  have get : ∀ (i : Nat) (g : Hp), (hs.set j h)[i]? = some g → g = h ∨ (i ≠ j ∧ hs[i]? = some g) := fun i g hi => by
    by_cases z : i = j
    · subst z
      by_cases hl : i < hs.length
      · rw [List.getElem?_set_self hl] at hi; exact .inl (Option.some.inj hi).symm
      · rw [List.getElem?_eq_none (by rw [List.length_set]; omega)] at hi; cases hi
    · rw [List.getElem?_set_ne (Ne.symm z)] at hi; exact .inr ⟨z, hi⟩
  refine ⟨c.base, c.lk, fun g hh a o q => ?_, fun g hh => ?_, fun i k x y hik hi hk => ?_⟩
  · obtain ⟨i, hi⟩ := List.getElem?_of_mem hh
    rcases get i g hi with rfl | ⟨_, hi⟩
    · rw [e a] at q; cases q
    · exact c.own g (c.mem hi) a o q
  · obtain ⟨i, hi⟩ := List.getElem?_of_mem hh
    rcases get i g hi with rfl | ⟨_, hi⟩
    · exact (emp_dj e).symm
    · exact c.dB g (c.mem hi)
  · rcases get i x hi with rfl | ⟨_, hi⟩
    · exact emp_dj e
    · rcases get k y hk with rfl | ⟨_, hk⟩
      · exact (emp_dj e).symm
      · exact c.dh i k x y hik hi hk
theorem Cur.insE {L B hs H} (c : Cur L B hs H) {h : Hp} (e : ∀ a, h a = none) : Cur L B (h :: hs) H :=
  ⟨c.base, c.lk, fun g hg a o q => (List.mem_cons.mp hg).elim (fun z => by rw [z, e a] at q; cases q) fun z => c.own g z a o q, fun g hg => (List.mem_cons.mp hg).elim (fun z => by rw [z]; exact (emp_dj e).symm) fun z => c.dB g z, Apart.cons c.dh fun g _ => emp_dj e⟩

/-! ### own parts of one object, in general -/
/-- the own part at the place j is the one object o at a -/
class Sgl (O : Own) (a : Addr) (f : outParam (Hp → HO → Prop)) : Prop where
  get : ∀ {B h : Hp}, O.p B h → ∃ o, h = sgl a o ∧ f B o
section
variable {L : Lk} {rs rs' : List (Option R)} {st as : List R} {os os' : List Own} {K : KK} {D : Ends} {F : PySem.W.Frag} {q : R} {a : Addr} {j : Nat} {v : V}
/-- an own object goes into the base; a fact about it stands in its place -/
theorem k_frz {O : Own} (q : R) (hO : ∀ (B h : Hp), O.p B h → ∃ o, h = sgl a o ∧ ∀ B', Ex B B' → B' a = some o → q.p B' (.ref a)) (j : Nat) (e : os[j]? = some O) (k : Gk L rs st (os.set j (oIs (.ref a) q)) K) : Gk L rs st os K := fun σ vs H s => by
  obtain ⟨B, hs, c, ho, hr, hst⟩ := s
  obtain ⟨g, hg, hw⟩ := pget ho e
  obtain ⟨o, rfl, hq⟩ := hO B g hw
  have hB : B a = none := by
    rcases c.dB _ (c.mem hg) a with z | z
    · exact z
    · rw [sgl_same] at z; cases z
  have ex : Ex B (upd B a o) := Ex.new hB
  have c2 : Cur L (upd B a o) (hs.set j fun _ => none) H := by
    have c1 := (c.frz hg).insE (h := fun _ => none) fun _ => rfl
    have hj : j < hs.length := (List.getElem?_eq_some_iff.mp hg).1
    refine c1.perm (fun i => if i = j then 0 else if i < j then i + 1 else i) (fun x y hx hy z => ?_) (fun i u hi => ?_)
    · split at z <;> split at z <;> (try split at z) <;> (try split at z) <;> omega
    · by_cases z : i = j
      · subst z
        rw [List.getElem?_set_self hj] at hi
        rw [if_pos rfl]; exact hi
      · rw [List.getElem?_set_ne (Ne.symm z)] at hi
        rw [if_neg z]
        split
        · rename_i z2
          rw [List.getElem?_cons_succ, List.getElem?_eraseIdx, if_pos z2]; exact hi
        · rename_i z2
          have : i = (i - 1) + 1 := by omega
          rw [this, List.getElem?_cons_succ, List.getElem?_eraseIdx, if_neg (by omega), ← this]; exact hi
  have ho2 : Paired (fun O h => Own.p O (upd B a o) h) os hs := pmap ho fun O _ z => O.mono ex z
  exact k σ vs H ⟨_, _, c2, pset (F := fun (O : Own) h => O.p (upd B a o) h) (a := oIs (.ref a) q) (b := fun _ => none) ⟨fun _ => rfl, hq _ ex upd_same⟩ j ho2, pmap hr fun _ _ z => z.mono ex, pmap hst fun q _ z => q.mono ex z⟩
/-- what is known of the value on the stack -/
theorem k_is [h : AtIs os v q j] (k : Gk L rs (q :: st) os K) : Gk L rs (rV v :: st) os K := fun σ vs H s => by
  obtain ⟨B, hs, c, ho, hr, hst⟩ := s
  cases hst with
  | cons h1 h2 => exact k σ _ H ⟨B, hs, c, ho, hr, .cons (by rw [show _ = v from h1]; exact h.get ho) h2⟩
/-- .. of a slot -/
theorem k_isS (i : Nat) [g : GetR rs i (rV v)] [h : AtIs os v q j] [s : SetR rs i (some q) rs'] (k : Gk L rs' st os K) : Gk L rs st os K := fun σ vs H z => by
  obtain ⟨B, hs, c, ho, hr, hst⟩ := z
  obtain ⟨b, hb, u, hu, eu⟩ := pget hr g.e
  subst hu
  have hi : (σ.set i (some u)) = σ := by
    obtain ⟨hlt, hx⟩ := List.getElem?_eq_some_iff.mp hb
    rw [← hx, List.set_getElem_self]
  have p := pset (F := slotOk B) (a := some q) (b := some u) ⟨u, rfl, by rw [show u = v from eu]; exact h.get ho⟩ i hr
  rw [hi, s.e] at p
  exact k σ vs H ⟨B, hs, c, ho, p, hst⟩
end

/-! ### instances -/
def AllF (B : Hp) (fl : List (Str × R)) (fs : List (Str × V)) : Prop := Paired (fun (f : Str × R) (g : Str × V) => f.1 = g.1 ∧ f.2.p B g.2) fl fs
theorem AllF.mono {B B' : Hp} (e : Ex B B') {fl : List (Str × R)} {fs : List (Str × V)} (h : AllF B fl fs) : AllF B' fl fs := pmap h fun f _ r => ⟨r.1, f.2.mono e r.2⟩
theorem AllF.look {B : Hp} {f : Str} {q : R} : ∀ {fl : List (Str × R)} {fs : List (Str × V)}, AllF B fl fs → fl.lookup f = some q → ∃ v, fs.lookup f = some v ∧ q.p B v
  | _, _, .nil, e => by cases e
  | (n, r) :: fl, (m, v) :: fs, .cons ⟨h1, h2⟩ t, e => by
    cases h1
    rw [List.lookup_cons] at e ⊢
    cases z : (f == n) with
    | true => rw [z] at e; cases e; exact ⟨v, rfl, h2⟩
    | false => rw [z] at e; exact AllF.look (fl := fl) (fs := fs) t e
theorem AllF.no {B : Hp} {f : Str} : ∀ {fl : List (Str × R)} {fs : List (Str × V)}, AllF B fl fs → fl.lookup f = none → fs.lookup f = none
  | _, _, .nil, e => rfl
  | (n, r) :: fl, (m, v) :: fs, .cons ⟨h1, h2⟩ t, e => by
    cases h1
    rw [List.lookup_cons] at e ⊢
    cases z : (f == n) with
    | true => rw [z] at e; cases e
    | false => rw [z] at e; exact AllF.no (fl := fl) (fs := fs) t e
def putR (f : Str) (q : R) : List (Str × R) → List (Str × R)
  | [] => [(f, q)]
  | (n, r) :: l => if n = f then (n, q) :: l else (n, r) :: putR f q l
theorem AllF.put {B : Hp} {f : Str} {q : R} {v : V} (hq : q.p B v) : ∀ {fl : List (Str × R)} {fs : List (Str × V)}, AllF B fl fs → AllF B (putR f q fl) (putF f v fs)
  | _, _, .nil => .cons ⟨rfl, hq⟩ .nil
  | (n, r) :: fl, (m, w) :: fs, .cons ⟨h1, h2⟩ t => by
    cases h1
    have ih := AllF.put (f := f) hq t
    by_cases z : n = f
    · show AllF B (if n = f then (n, q) :: fl else (n, r) :: putR f q fl) (if n = f then (n, v) :: fs else (n, w) :: putF f v fs)
      rw [if_pos z, if_pos z]; exact .cons ⟨rfl, hq⟩ t
    · show AllF B (if n = f then (n, q) :: fl else (n, r) :: putR f q fl) (if n = f then (n, v) :: fs else (n, w) :: putF f v fs)
      rw [if_neg z, if_neg z]; exact .cons ⟨rfl, h2⟩ ih
def rIn (C : Addr) (fl : List (Str × R)) : R := ⟨fun B v => ∃ x dx fs, v = .ref x ∧ B x = some (.ins C dx fs) ∧ AllF B fl fs, fun e ⟨x, dx, fs, h1, h2, h3⟩ => ⟨x, dx, fs, h1, e _ _ h2, h3.mono e⟩⟩
def oIn (x C : Addr) (fl : List (Str × R)) : Own := ⟨fun B h => ∃ dx fs, h = sgl x (.ins C dx fs) ∧ AllF B fl fs, fun e ⟨dx, fs, h1, h2⟩ => ⟨dx, fs, h1, h2.mono e⟩⟩
class AtI (os : List Own) (x : Addr) (C : outParam Addr) (fl : outParam (List (Str × R))) (j : outParam Nat) : Prop where
  e : os[j]? = some (oIn x C fl)
instance (priority := high) {x C : Addr} {fl : List (Str × R)} {os : List Own} : AtI (oIn x C fl :: os) x C fl 0 := ⟨rfl⟩
instance {x C : Addr} {fl : List (Str × R)} {O : Own} {os : List Own} {j : Nat} [h : AtI os x C fl j] : AtI (O :: os) x C fl (j + 1) := ⟨by simpa using h.e⟩
/-- instances that are read -/
class InR (os : List Own) (q : R) (C : outParam Addr) (fl : outParam (List (Str × R))) : Prop where
  get : ∀ {L : Lk} {B : Hp} {hs : List Hp} {H : Hp} {v : V}, Cur L B hs H → Paired (fun O h => Own.p O B h) os hs → q.p B v → ∃ x dx fs, v = .ref x ∧ H x = some (.ins C dx fs) ∧ AllF B fl fs
instance (priority := high) {os : List Own} {C : Addr} {fl : List (Str × R)} : InR os (rIn C fl) C fl := ⟨fun c _ ⟨x, dx, fs, h1, h2, h3⟩ => ⟨x, dx, fs, h1, c.exact h2 rfl, h3⟩⟩
instance {os : List Own} {x C : Addr} {fl : List (Str × R)} {j : Nat} [h : AtI os x C fl j] : InR os (rA x) C fl := ⟨fun c ho hq => by
  obtain ⟨g, hg, dx, fs, rfl, hw⟩ := pget ho h.e
  exact ⟨x, dx, fs, hq, c.own _ (c.mem hg) x _ sgl_same, hw⟩⟩
instance (priority := low) {os : List Own} {x C : Addr} {fl : List (Str × R)} {q : R} {j : Nat} [h : AtIs os (.ref x) q j] [r : InR os q C fl] : InR os (rA x) C fl := ⟨fun c ho hq => by
  rw [show _ = V.ref x from hq]
  exact r.get c ho (h.get ho)⟩
instance (priority := low) {F : PySem.W.Frag} {os : List Own} {x : Addr} {qs : List R} {q : R} {j : Nat} [h : AtIs os (.ref x) q j] [r : SeqL F os q qs] : SeqL F os (rA x) qs := ⟨fun c ho hq => by
  rw [show _ = V.ref x from hq]
  exact r.get c ho (h.get ho)⟩
section
variable {L : Lk} {rs rs' : List (Option R)} {st as : List R} {os os' fr : List Own} {K : KK} {D : Ends} {F : PySem.W.Frag} {q q0 : R} {a C : Addr} {j : Nat} {v : V} {fl : List (Str × R)} {f m : Str} {ta tv te : TE} {t : TA} {c : Ct} {sp : Sp} {dvs : List V} {E : XK}
def fldk (F : PySem.W.Frag) (f : Str) (K : KK) : KK := fun σ vs H => match vs with
  | x :: tl => ∃ a C dx fs v, x = .ref a ∧ H a = some (.ins C dx fs) ∧ Cls F C ∧ NoAttr F C f ∧ fs.lookup f = some v ∧ K σ (v :: tl) H
  | [] => False
theorem k_fld0 (k : Gk L rs st os (evk ta (fldk F f K))) : Gk L rs st os (evk (tFld F ta f) K) := k
theorem k_fld [r : InR os q0 C fl] (hc : Cls F C) (hn : NoAttr F C f) (hl : fl.lookup f = some q) (k : Gk L rs (q :: st) os K) : Gk L rs (q0 :: st) os (fldk F f K) := fun σ vs H s => by
  obtain ⟨B, hs, c, ho, hr, hst⟩ := s
  cases hst with
  | cons h1 h2 =>
    obtain ⟨x, dx, fs, rfl, hx, hf⟩ := r.get c ho h1
    obtain ⟨v, e1, e2⟩ := hf.look hl
    exact ⟨x, C, dx, fs, v, rfl, hx, hc, hn, e1, k σ _ H ⟨B, hs, c, ho, hr, .cons e2 h2⟩⟩
/-- self.f = e -/
def sfldk (F : PySem.W.Frag) (f : Str) (D : Ends) : KK := fun σ vs H => match vs with
  | x :: y :: _ => ∃ a C dx fs, x = .ref a ∧ H a = some (.ins C dx fs) ∧ Cls F C ∧ NoAttr F C f ∧ fs.length < 1000 ∧ D.nx σ (upd H a (.ins C dx (putF f y fs)))
  | _ => False
theorem k_sfld0 (k : Gk L rs st os (evk tv (evk ta (sfldk F f D)))) : Gk L rs st os (stk (sFld F ta tv f) D) := fun σ vs H s => by
  have q := k σ vs H s
  exact q
theorem k_sfld [h : AtI os a C fl j] [o : SetO os j (oIn a C (putR f q fl)) os'] (hc : Cls F C) (hn : NoAttr F C f) (hz : fl.length < 900) (k : Gk L rs st os' (nxk D)) : Gk L rs (rA a :: q :: st) os (sfldk F f D) := fun σ vs H s => by
  obtain ⟨B, hs, c, ho, hr, hst⟩ := s
  obtain ⟨g, hg, dx, fs, rfl, hw⟩ := pget ho h.e
  cases hst with
  | cons h1 h2 =>
    cases h2 with
    | cons h3 h4 =>
      rw [show _ = V.ref a from h1]
      have hl : fs.length < 1000 := by rw [← Paired.length hw]; omega
      refine ⟨a, C, dx, fs, rfl, c.own _ (c.mem hg) a _ sgl_same, hc, hn, hl, k σ _ _ ⟨B, hs.set j (sgl a (.ins C dx (putF f _ fs))), c.mut hg, ?_, hr, h4⟩⟩
      rw [← o.e]
      exact pset ⟨dx, _, rfl, AllF.put h3 hw⟩ j ho
/-- an own instance is finished -/
theorem k_frzI [h : AtI os a C fl j] [o : SetO os j (oIs (.ref a) (rIn C fl)) os'] (k : Gk L rs st os' K) : Gk L rs st os K :=
  k_frz (a := a) (O := oIn a C fl) (rIn C fl) (fun B h ⟨dx, fs, e, hw⟩ => ⟨_, e, fun B' ex hB => ⟨a, dx, fs, rfl, hB, hw.mono ex⟩⟩) j h.e (o.e.symm ▸ k)
theorem k_frzLi [h : AtL os a qs j] [o : SetO os j (oIs (.ref a) (rLs qs)) os'] (k : Gk L rs st os' K) : Gk L rs st os K :=
  k_frz (a := a) (O := oLs a qs) (rLs qs) (fun B h ⟨ws, e, hw⟩ => ⟨_, e, fun B' ex hB => ⟨a, ws, rfl, hB, AllR.mono ex hw⟩⟩) j h.e (o.e.symm ▸ k)

/-! ### methods, new instances -/
def methk (C : Addr) (m : Str) (sp : Sp) (dvs : List V) (E : XK) (t : TA) (K : KK) : KK := fun σ vs H => match vs with
  | x :: tl => ∃ a dx fs, x = .ref a ∧ H a = some (.ins C dx fs) ∧ fs.lookup m = none ∧ t σ H fun us H2 => sp (x :: (us ++ dvs)) H2 (fun z H' => K σ (z :: tl) H') E
  | [] => False
def mcallk (sp : Sp) (dvs : List V) (E : XK) (K : KK) (us : List V) : KK := fun σ vs H => match vs with
  | x :: tl => sp (x :: (us ++ dvs)) H (fun z H' => K σ (z :: tl) H') E
  | [] => False
theorem k_meth0 (k : Gk L rs st os (evk ta (methk C m sp dvs E t K))) : Gk L rs st os (evk (tMeth C m sp dvs E ta t) K) := k
theorem k_meth [r : InR os q0 C fl] (hl : fl.lookup m = none) (k : Gk L rs (q0 :: st) os (ak t (mcallk sp dvs E K))) : Gk L rs (q0 :: st) os (methk C m sp dvs E t K) := fun σ vs H s => by
  have q := k σ vs H s
  obtain ⟨B, hs, c, ho, hr, hst⟩ := s
  cases hst with
  | cons h1 h2 =>
    obtain ⟨x, dx, fs, rfl, hx, hf⟩ := r.get c ho h1
    exact ⟨x, dx, fs, rfl, hx, hf.no hl, q⟩
/-- a method by its contract; its own parts stand first -/
theorem k_mcall (d : c.δ) (ho : os = c.own d ++ fr) (hp : q0 :: as = c.pre d) (hok : c.ok d) (h : ∀ e, c.post d e → Gk L rs (c.ret d e :: st) (c.out d e ++ fr) K) : GA L rs as (q0 :: st) os (mcallk (Fn c) [] E K) := fun σ us vs H hl s => by
  cases vs with
  | nil =>
    obtain ⟨B, hs, cu, _, _, h1, h2⟩ := S.args hl s
    cases h2
  | cons x tl =>
    have s' : S L rs ((q0 :: as) ++ st) os σ ((x :: us) ++ tl) H := by
      obtain ⟨B, hs, cu, ho, hr, h1, h2⟩ := S.args hl s
      cases h2 with
      | cons g1 g2 => exact ⟨B, hs, cu, ho, hr, .cons g1 (papp h1 g2)⟩
    have q := k_callF (c := c) (E := E) (K := K) (rs := rs) (st := st) (as := q0 :: as) d ho hp hok h σ (x :: us) tl H (by rw [List.length_cons, List.length_cons, hl]) s'
    exact q
def makek (C : Addr) (sp : Sp) (dvs : List V) (E : XK) (K : KK) (us : List V) : KK := fun σ vs H => ∀ x dx, H x = none → H dx = none → dx ≠ x →
  sp (.ref x :: (us ++ dvs)) (upd (upd H dx (.own x)) x (.ins C dx [])) (fun v H2 => v = .non ∧ K σ (.ref x :: vs) H2) E
theorem k_make0 (k : Gk L rs st os (ak t (makek C sp dvs E K))) : Gk L rs st os (evk (tMake C sp dvs E t) K) := k
theorem Cur.grow {L B hs H} (c : Cur L B hs H) {p : Addr} {o : HO} (e : H p = none) : Cur L B hs (upd H p o) :=
  ⟨fun a u q => by rw [upd_ne (ne_of_none q (c.free e))]; exact c.base a u q, c.lk, fun h hh a u q => by rw [upd_ne (ne_of_none q (c.freeO e h hh))]; exact c.own h hh a u q, c.dB, c.dh⟩
/-- C(..): the new instance is own, then __init__ by its contract -/
theorem k_make (d : Addr → c.δ) (ho : ∀ x, oIn x C [] :: os = c.own (d x) ++ fr) (hp : ∀ x, rA x :: as = c.pre (d x)) (hok : ∀ x, c.ok (d x)) (hn : ∀ x e, c.ret (d x) e = rN) (h : ∀ x e, c.post (d x) e → Gk L rs (rA x :: st) (c.out (d x) e ++ fr) K) : GA L rs as st os (makek C (Fn c) [] E K) := fun σ us vs H hl s x dx hx hdx hne => by
  obtain ⟨B, hs, cu, ho1, hr, h1, h2⟩ := S.args hl s
  have hx2 : upd H dx (.own x) x = none := by rw [upd_ne (Ne.symm hne)]; exact hx
  have s' : S L rs ((rA x :: as) ++ st) (oIn x C [] :: os) σ ((V.ref x :: us) ++ vs) (upd (upd H dx (.own x)) x (.ins C dx [])) := ⟨B, _, (cu.grow hdx).newO hx2, .cons ⟨dx, [], rfl, .nil⟩ ho1, hr, .cons rfl (papp h1 h2)⟩
  have q := k_callF (c := c) (E := E) (K := fun σ vs H => match vs with | v :: tl => v = .non ∧ K σ (.ref x :: tl) H | [] => False) (rs := rs) (st := st) (as := rA x :: as) (d x) (ho x) (hp x) (hok x) (fun e he σ vs H s => by
    obtain ⟨B, hs, cu, ho, hr, hst⟩ := s
    cases hst with
    | cons g1 g2 =>
      rw [hn x e] at g1
      exact ⟨g1, h x e he σ _ H ⟨B, hs, cu, ho, hr, .cons rfl g2⟩⟩) σ (.ref x :: us) vs _ (by rw [List.length_cons, List.length_cons, hl]) s'
  exact q
end
end G
/-! GL6: operators of several kinds, in, stores, dicts. Own work. -/
namespace G
open PySem PySem.Spec PyProof.Rows L2

/-! ### the operators -/
def rPlus : R2 := fun x y H Q => (L2.rI0 fun i j => .int (i + j)) x y H Q ∨ (∃ i j, x = .str i ∧ y = .str j ∧ i.length + j.length ≤ sizeLine ∧ Q (.str (i ++ j)) H) ∨ rCat x y H Q
theorem op_plus {X : Cx} : OpR X (binaryOp .Add) rPlus := op_add.or (op_add_str.or op_cat)
def rEqU (F : PySem.W.Frag) : R2 := fun x y H Q => rEq x y H Q ∨ rEqD F x y H Q
theorem op_eqU {X : Cx} (hu : X.A.units + 64 < cLine) : OpR X (compareOp .Eq) (rEqU X.K) := op_eq.or (op_eqD hu)
def rNeU (F : PySem.W.Frag) : R2 := fun x y H Q => rNe x y H Q ∨ rNeD F x y H Q
theorem op_neU {X : Cx} (hu : X.A.units + 64 < cLine) : OpR X (compareOp .NotEq) (rNeU X.K) := op_ne.or (op_neD hu)
def rInU (F : PySem.W.Frag) : R2 := fun x y H Q => L2.rIn F false x y H Q ∨ (∃ (c : Nat) (z : Str), x = .str ⟨#[c]⟩ ∧ y = .str z ∧ Q (.bl (decide (c ∈ z.cps.toList))) H) ∨ rInD F x y H Q
theorem op_inU {X : Cx} (hu : X.A.units + 65 < cLine) : OpR X (compareOp .In) (rInU X.K) := op_in_seq.or (op_in_sign.or (op_inD hu))
def rNotInU (F : PySem.W.Frag) : R2 := fun x y H Q => L2.rIn F true x y H Q ∨ (∃ (c : Nat) (z : Str), x = .str ⟨#[c]⟩ ∧ y = .str z ∧ Q (.bl (!decide (c ∈ z.cps.toList))) H) ∨ rNotInD F x y H Q
theorem op_notInU {X : Cx} (hu : X.A.units + 65 < cLine) : OpR X (compareOp .NotIn) (rNotInU X.K) := op_notIn_seq.or (op_notIn_sign.or (op_notInD hu))

/-! ### dicts, their words -/
def AllK {κ : Type} (B : Hp) (kqs : List (κ × R)) (kvs : List (κ × V)) : Prop := Paired (fun (f : κ × R) (g : κ × V) => f.1 = g.1 ∧ f.2.p B g.2) kqs kvs
section
variable {κ : Type} [DecidableEq κ]
theorem AllK.mono {B B' : Hp} (e : Ex B B') {kqs : List (κ × R)} {kvs : List (κ × V)} (h : AllK B kqs kvs) : AllK B' kqs kvs := pmap h fun f _ r => ⟨r.1, f.2.mono e r.2⟩
def valR (kqs : List (κ × R)) (k : κ) : Option R := (kqs.find? fun kv => decide (kv.1 = k)).map (·.2)
def putKR (kqs : List (κ × R)) (k : κ) (q : R) : List (κ × R) := if (kqs.any fun kv => decide (kv.1 = k)) = true then kqs.map (fun kv => if kv.1 = k then (kv.1, q) else kv) else kqs ++ [(k, q)]
def dropKR (kqs : List (κ × R)) (k : κ) : List (κ × R) := kqs.filter fun kv => decide (kv.1 ≠ k)
theorem AllK.val {B : Hp} {k : κ} : ∀ {kqs : List (κ × R)} {kvs : List (κ × V)}, AllK B kqs kvs → (∃ q v, valR kqs k = some q ∧ valV kvs k = some v ∧ q.p B v) ∨ (valR kqs k = none ∧ valV kvs k = none)
  | _, _, .nil => .inr ⟨rfl, rfl⟩
  | (n, r) :: kqs, (m, w) :: kvs, .cons ⟨h1, h2⟩ t => by
    cases h1
    by_cases z : n = k
    · exact .inl ⟨r, w, by simp [valR, z], by simp [valV, z], h2⟩
    · have e1 : valR ((n, r) :: kqs) k = valR kqs k := by simp [valR, z]
      have e2 : valV ((n, w) :: kvs) k = valV kvs k := by simp [valV, z]
      rw [e1, e2]
      exact AllK.val (kqs := kqs) (kvs := kvs) t
theorem AllK.any {B : Hp} {k : κ} : ∀ {kqs : List (κ × R)} {kvs : List (κ × V)}, AllK B kqs kvs → (kqs.any fun kv => decide (kv.1 = k)) = (kvs.any fun kv => decide (kv.1 = k))
  | _, _, .nil => rfl
  | (n, r) :: kqs, (m, w) :: kvs, .cons ⟨h1, h2⟩ t => by
    cases h1
    rw [List.any_cons, List.any_cons, AllK.any (kqs := kqs) (kvs := kvs) t]
theorem AllK.put {B : Hp} {k : κ} {q : R} {v : V} (hq : q.p B v) {kqs : List (κ × R)} {kvs : List (κ × V)} (h : AllK B kqs kvs) : AllK B (putKR kqs k q) (putK kvs k v) := by
  unfold putKR putK
  rw [h.any]
  split
  · rename_i hc
    clear hc
    induction h with
    | nil => exact .nil
    | @cons a b l m r t ih =>
      obtain ⟨n, r'⟩ := a
      obtain ⟨m', w⟩ := b
      obtain ⟨h1, h2⟩ := r
      cases h1
      rw [List.map_cons, List.map_cons]
      refine .cons ?_ ih
      by_cases z : n = k
      · simp only [z, if_true]; exact ⟨trivial, hq⟩
      · simp only [z, if_false]; exact ⟨trivial, h2⟩
  · exact papp h (.cons ⟨rfl, hq⟩ .nil)
theorem AllK.drop {B : Hp} {k : κ} {kqs : List (κ × R)} {kvs : List (κ × V)} (h : AllK B kqs kvs) : AllK B (dropKR kqs k) (dropK kvs k) := by
  unfold dropKR dropK
  induction h with
  | nil => exact .nil
  | @cons a b l m r t ih =>
    obtain ⟨n, r'⟩ := a
    obtain ⟨m', w⟩ := b
    obtain ⟨h1, h2⟩ := r
    cases h1
    by_cases z : n = k
    · simpa [List.filter_cons, z] using ih
    · rw [List.filter_cons_of_pos (by simpa using z), List.filter_cons_of_pos (by simpa using z)]
      exact .cons ⟨rfl, h2⟩ ih
theorem AllK.len {B : Hp} {kqs : List (κ × R)} {kvs : List (κ × V)} (h : AllK B kqs kvs) : kqs.length = kvs.length := Paired.length h
end
def rDk (kqs : List (Key × R)) : R := ⟨fun B v => ∃ a kvs, v = .ref a ∧ B a = some (.dK kvs) ∧ AllK B kqs kvs, fun e ⟨a, kvs, h1, h2, h3⟩ => ⟨a, kvs, h1, e _ _ h2, h3.mono e⟩⟩
def rDt (kqs : List (List Key × R)) : R := ⟨fun B v => ∃ a kvs, v = .ref a ∧ B a = some (.dT kvs) ∧ AllK B kqs kvs, fun e ⟨a, kvs, h1, h2, h3⟩ => ⟨a, kvs, h1, e _ _ h2, h3.mono e⟩⟩
def oDk (a : Addr) (kqs : List (Key × R)) : Own := ⟨fun B h => ∃ kvs, h = sgl a (.dK kvs) ∧ AllK B kqs kvs, fun e ⟨kvs, h1, h2⟩ => ⟨kvs, h1, h2.mono e⟩⟩
def oDt (a : Addr) (kqs : List (List Key × R)) : Own := ⟨fun B h => ∃ kvs, h = sgl a (.dT kvs) ∧ AllK B kqs kvs, fun e ⟨kvs, h1, h2⟩ => ⟨kvs, h1, h2.mono e⟩⟩
class AtK (os : List Own) (x : Addr) (kqs : outParam (List (Key × R))) (j : outParam Nat) : Prop where
  e : os[j]? = some (oDk x kqs)
instance (priority := high) {x : Addr} {kqs : List (Key × R)} {os : List Own} : AtK (oDk x kqs :: os) x kqs 0 := ⟨rfl⟩
instance {x : Addr} {kqs : List (Key × R)} {O : Own} {os : List Own} {j : Nat} [h : AtK os x kqs j] : AtK (O :: os) x kqs (j + 1) := ⟨by simpa using h.e⟩
class AtT (os : List Own) (x : Addr) (kqs : outParam (List (List Key × R))) (j : outParam Nat) : Prop where
  e : os[j]? = some (oDt x kqs)
instance (priority := high) {x : Addr} {kqs : List (List Key × R)} {os : List Own} : AtT (oDt x kqs :: os) x kqs 0 := ⟨rfl⟩
instance {x : Addr} {kqs : List (List Key × R)} {O : Own} {os : List Own} {j : Nat} [h : AtT os x kqs j] : AtT (O :: os) x kqs (j + 1) := ⟨by simpa using h.e⟩
/-- dicts that are read -/
class DkR (os : List Own) (q : R) (kqs : outParam (List (Key × R))) : Prop where
  get : ∀ {L : Lk} {B : Hp} {hs : List Hp} {H : Hp} {v : V}, Cur L B hs H → Paired (fun O h => Own.p O B h) os hs → q.p B v → ∃ a kvs, v = .ref a ∧ Rd H a (.dK kvs) ∧ AllK B kqs kvs
instance {os : List Own} {kqs : List (Key × R)} : DkR os (rDk kqs) kqs := ⟨fun c _ ⟨a, kvs, h1, h2, h3⟩ => ⟨a, kvs, h1, c.rd h2, h3⟩⟩
instance {os : List Own} {x : Addr} {kqs : List (Key × R)} {j : Nat} [h : AtK os x kqs j] : DkR os (rA x) kqs := ⟨fun c ho hq => by
  obtain ⟨g, hg, kvs, rfl, hw⟩ := pget ho h.e
  exact ⟨x, kvs, hq, .inl (c.own _ (c.mem hg) x _ sgl_same), hw⟩⟩
class DtR (os : List Own) (q : R) (kqs : outParam (List (List Key × R))) : Prop where
  get : ∀ {L : Lk} {B : Hp} {hs : List Hp} {H : Hp} {v : V}, Cur L B hs H → Paired (fun O h => Own.p O B h) os hs → q.p B v → ∃ a kvs, v = .ref a ∧ Rd H a (.dT kvs) ∧ AllK B kqs kvs
instance {os : List Own} {kqs : List (List Key × R)} : DtR os (rDt kqs) kqs := ⟨fun c _ ⟨a, kvs, h1, h2, h3⟩ => ⟨a, kvs, h1, c.rd h2, h3⟩⟩
instance {os : List Own} {x : Addr} {kqs : List (List Key × R)} {j : Nat} [h : AtT os x kqs j] : DtR os (rA x) kqs := ⟨fun c ho hq => by
  obtain ⟨g, hg, kvs, rfl, hw⟩ := pget ho h.e
  exact ⟨x, kvs, hq, .inl (c.own _ (c.mem hg) x _ sgl_same), hw⟩⟩
/-- keys: ints and texts; tuples of them -/
class KeyV (q : R) (k : outParam Key) : Prop where
  get : ∀ {B : Hp} {v : V}, q.p B v → v = kV k
instance {i : Int} : KeyV (rI i) (.inl i) := ⟨fun h => h⟩
instance {x : Str} : KeyV (rS x) (.inr x) := ⟨fun h => h⟩
class KeyVs (qs : List R) (ks : outParam (List Key)) : Prop where
  get : ∀ {B : Hp} {vs : List V}, AllR B qs vs → vs = ks.map kV
instance : KeyVs [] [] := ⟨fun h => by cases h; rfl⟩
instance {q : R} {k : Key} {qs : List R} {ks : List Key} [h : KeyV q k] [t : KeyVs qs ks] : KeyVs (q :: qs) (k :: ks) := ⟨fun r => by
  cases r with
  | cons a b => rw [h.get a, t.get b]; rfl⟩
class KeyT (q : R) (ks : outParam (List Key)) : Prop where
  get : ∀ {B : Hp} {v : V}, q.p B v → ∃ b, v = .ref b ∧ B b = some (.tup (ks.map kV))
instance {qs : List R} {ks : List Key} [h : KeyVs qs ks] : KeyT (rTp qs) ks := ⟨fun ⟨a, vs, h1, h2, h3⟩ => ⟨a, h1, by rw [h2, h.get h3]⟩⟩

/-- an item of a written list is changed -/
class SetQ (qs : List R) (i : Int) (q : R) (qs' : outParam (List R)) : Prop where
  e : qs.set i.toNat q = qs'
instance (priority := high) {x q : R} {qs : List R} : SetQ (x :: qs) 0 q (q :: qs) := ⟨rfl⟩
instance (priority := high) {x y q : R} {qs : List R} : SetQ (x :: y :: qs) 1 q (x :: q :: qs) := ⟨rfl⟩
instance (priority := high) {x y z q : R} {qs : List R} : SetQ (x :: y :: z :: qs) 2 q (x :: y :: q :: qs) := ⟨rfl⟩
instance (priority := high) {x y z w q : R} {qs : List R} : SetQ (x :: y :: z :: w :: qs) 3 q (x :: y :: z :: q :: qs) := ⟨rfl⟩
instance (priority := high) {x y z w u q : R} {qs : List R} : SetQ (x :: y :: z :: w :: u :: qs) 4 q (x :: y :: z :: w :: q :: qs) := ⟨rfl⟩
instance (priority := low) {q : R} {qs : List R} {i : Int} : SetQ qs i q (qs.set i.toNat q) := ⟨rfl⟩

def rDIn : R2 := fun y x H Q => ∃ a o, x = .ref a ∧ DGet H a y o ∧ Q (.bl o.isSome) H
def rDNotIn : R2 := fun y x H Q => ∃ a o, x = .ref a ∧ DGet H a y o ∧ Q (.bl (!o.isSome)) H
theorem op_dIn {X : Cx} (hu : X.A.units + 1 < cLine) : OpR X (compareOp .In) rDIn := by
  intro pins s σ H y x v u Q I ry rx h
  obtain ⟨a, o, rfl, g, q⟩ := h
  obtain rfl : u = Value.ref a := rx
  exact d_in hu I g ry fun s3 I3 => ⟨.bl o.isSome, H, I3, rfl, q⟩
theorem op_dNotIn {X : Cx} (hu : X.A.units + 1 < cLine) : OpR X (compareOp .NotIn) rDNotIn := by
  intro pins s σ H y x v u Q I ry rx h
  obtain ⟨a, o, rfl, g, q⟩ := h
  obtain rfl : u = Value.ref a := rx
  exact d_notIn hu I g ry fun s3 I3 => ⟨.bl (!o.isSome), H, I3, rfl, q⟩

section
variable {L : Lk} {rs rs' : List (Option R)} {st as : List R} {os os' fr : List Own} {K : KK} {D : Ends} {F : PySem.W.Frag} {q q0 q1 : R} {a : Addr} {j : Nat} {v w : V} {kqs : List (Key × R)} {tqs : List (List Key × R)} {k : Key} {ks : List Key} {td ty tx tv te to ti : TE}
/-! ### +, ==, in -/
theorem k_plusI {i j : Int} (h : Gk L rs (rI (i + j) :: st) os K) : Gk L rs (rI j :: rI i :: st) os (opk rPlus K) := k_opV (fun H Q z => .inl ⟨i, j, rfl, rfl, z⟩) h
theorem k_plusS {x y : Str} (hz : x.length + y.length ≤ 100000) (h : Gk L rs (rS (x ++ y) :: st) os K) : Gk L rs (rS y :: rS x :: st) os (opk rPlus K) := k_opV (fun H Q z => .inr (.inl ⟨x, y, rfl, rfl, Nat.le_trans hz (by decide), z⟩)) h
theorem k_plusL {qs ps : List R} (hz : qs.length + ps.length ≤ 100000) (h : Gk L rs (rLs (qs ++ ps) :: st) os K) : Gk L rs (rLs ps :: rLs qs :: st) os (opk rPlus K) := fun σ vs H s => by
  obtain ⟨B, hs, c, ho, hr, hst⟩ := s
  cases hst with
  | cons g1 g2 =>
    cases g2 with
    | cons g3 g4 =>
      obtain ⟨b, ws, rfl, hb, hw⟩ := g1
      obtain ⟨a, us, rfl, ha, hu⟩ := g3
      refine .inr (.inr ⟨a, b, us, ws, rfl, rfl, c.exact ha rfl, c.exact hb rfl, by rw [← AllR.len hu, ← AllR.len hw]; exact Nat.le_trans hz (by decide), fun p hp => h σ _ _ (newB c ho hr g4 hp ?_)⟩)
      exact ⟨p, us ++ ws, rfl, upd_same, papp (AllR.mono (Ex.new (c.free hp)) hu) (AllR.mono (Ex.new (c.free hp)) hw)⟩
theorem k_eqU (hs : scal v w = true) (h : Gk L rs (rB (decide (v = w)) :: st) os K) : Gk L rs (rV w :: rV v :: st) os (opk (rEqU F) K) := k_opV (fun H Q z => .inl ⟨hs, z⟩) h
theorem k_neU (hs : scal v w = true) (h : Gk L rs (rB (!decide (v = w)) :: st) os K) : Gk L rs (rV w :: rV v :: st) os (opk (rNeU F) K) := k_opV (fun H Q z => .inl ⟨hs, z⟩) h
theorem all_rV {B : Hp} : ∀ {xs : List V} {vs : List V}, AllR B (xs.map rV) vs → vs = xs
  | [], _, .nil => rfl
  | x :: xs, _, .cons h t => by rw [all_rV t, show _ = x from h]
/-- x in a list, a tuple of plain values -/
theorem k_inL {xs : List V} [sl : SeqL F os q0 (xs.map rV)] (hv : flatV v = true) (hx : xs.all flatV = true) (h : Gk L rs (rB (inV v xs) :: st) os K) : Gk L rs (q0 :: rV v :: st) os (opk (rInU F) K) := fun σ vs H s => by
  obtain ⟨B, hs, c, ho, hr, hst⟩ := s
  cases hst with
  | cons g1 g2 =>
    cases g2 with
    | cons g3 g4 =>
      obtain ⟨b, ws, rfl, hb, hw⟩ := sl.get c ho g1
      rw [show _ = v from g3]
      rw [all_rV hw] at hb
      exact .inl ⟨b, xs, rfl, .inl hb, hv, hx, h σ _ H ⟨B, hs, c, ho, hr, .cons rfl g4⟩⟩
theorem k_notInL {xs : List V} [sl : SeqL F os q0 (xs.map rV)] (hv : flatV v = true) (hx : xs.all flatV = true) (h : Gk L rs (rB (!inV v xs) :: st) os K) : Gk L rs (q0 :: rV v :: st) os (opk (rNotInU F) K) := fun σ vs H s => by
  obtain ⟨B, hs, c, ho, hr, hst⟩ := s
  cases hst with
  | cons g1 g2 =>
    cases g2 with
    | cons g3 g4 =>
      obtain ⟨b, ws, rfl, hb, hw⟩ := sl.get c ho g1
      rw [show _ = v from g3]
      rw [all_rV hw] at hb
      exact .inl ⟨b, xs, rfl, .inl hb, hv, hx, h σ _ H ⟨B, hs, c, ho, hr, .cons rfl g4⟩⟩
theorem k_inT {xs : List V} [sl : StT F q0 (xs.map rV)] (hv : flatV v = true) (hx : xs.all flatV = true) (h : Gk L rs (rB (inV v xs) :: st) os K) : Gk L rs (q0 :: rV v :: st) os (opk (rInU F) K) := fun σ vs H s => by
  obtain ⟨B, hs, c, ho, hr, hst⟩ := s
  cases hst with
  | cons g1 g2 =>
    cases g2 with
    | cons g3 g4 =>
      obtain ⟨b, ws, rfl, hb, hw⟩ := sl.get g1
      rw [show _ = v from g3]
      rw [all_rV hw] at hb
      exact .inl ⟨b, xs, rfl, .inr (c.sqT hb), hv, hx, h σ _ H ⟨B, hs, c, ho, hr, .cons rfl g4⟩⟩
theorem k_notInT {xs : List V} [sl : StT F q0 (xs.map rV)] (hv : flatV v = true) (hx : xs.all flatV = true) (h : Gk L rs (rB (!inV v xs) :: st) os K) : Gk L rs (q0 :: rV v :: st) os (opk (rNotInU F) K) := fun σ vs H s => by
  obtain ⟨B, hs, c, ho, hr, hst⟩ := s
  cases hst with
  | cons g1 g2 =>
    cases g2 with
    | cons g3 g4 =>
      obtain ⟨b, ws, rfl, hb, hw⟩ := sl.get g1
      rw [show _ = v from g3]
      rw [all_rV hw] at hb
      exact .inl ⟨b, xs, rfl, .inr (c.sqT hb), hv, hx, h σ _ H ⟨B, hs, c, ho, hr, .cons rfl g4⟩⟩
/-! ### stores -/
theorem k_tsub {g : TG} (h : Gk L rs st os (evk te (tgk g D))) : Gk L rs st os (stk (tAsg te g) D) := h
def subk (t : TSet) (D : Ends) : KK := fun σ vs H => match vs with
  | i :: o :: v :: _ => t o i v H fun H3 => D.nx σ H3
  | _ => False
theorem k_gsub {t : TSet} (h : Gk L rs (q :: st) os (evk to (evk ti (subk t D)))) : Gk L rs (q :: st) os (tgk (gSub to ti t) D) := fun σ vs H s => by
  have z := h σ vs H s
  cases vs with
  | nil =>
    obtain ⟨B, hs, c, ho, hr, hst⟩ := s
    cases hst
  | cons v vs => exact z
theorem ixN_nn {n : Nat} {k : Int} (h : 0 ≤ k ∧ k < n) : ixN n k = some k.toNat := by
  unfold ixN
  rw [if_pos h.1, if_pos h.2]
theorem k_setL {qs qs' : List R} {i : Int} [hj : AtL os a qs j] [sq : SetQ qs i q qs'] [o : SetO os j (oLs a qs') os'] (hi : 0 ≤ i ∧ i < qs.length) (h : Gk L rs st os' (nxk D)) : Gk L rs (rI i :: rA a :: q :: st) os (subk rSetL D) := fun σ vs H s => by
  obtain ⟨B, hs, ws, c, ho, hr, hst, hg, hw, hH⟩ := s.atO hj.e
  cases hst with
  | cons g1 g2 =>
    cases g2 with
    | cons g3 g4 =>
      cases g4 with
      | cons g5 g6 =>
        rw [show _ = V.int i from g1, show _ = V.ref a from g3]
        refine ⟨a, ws, i, i.toNat, rfl, rfl, hH, ixN_nn (by rw [← AllR.len hw]; exact hi), h σ _ _ ⟨B, _, c.mut hg, ?_, hr, g6⟩⟩
        rw [← o.e, ← sq.e]
        exact pset ⟨_, rfl, pset (F := fun (q : R) v => q.p B v) g5 _ hw⟩ j ho
/-! ### dicts -/
theorem k_dIn [d : DkR os q0 kqs] [kv : KeyV q k] (h : Gk L rs (rB (valR kqs k).isSome :: st) os K) : Gk L rs (q0 :: q :: st) os (opk rDIn K) := fun σ vs H s => by
  obtain ⟨B, hs, c, ho, hr, hst⟩ := s
  cases hst with
  | cons g1 g2 =>
    cases g2 with
    | cons g3 g4 =>
      obtain ⟨a, kvs, rfl, hd, hk⟩ := d.get c ho g1
      rw [kv.get g3]
      refine ⟨a, valV kvs k, rfl, .inl ⟨kvs, k, hd, rfl, rfl⟩, h σ _ H ⟨B, hs, c, ho, hr, .cons ?_ g4⟩⟩
      show V.bl _ = V.bl _
      rcases hk.val (k := k) with ⟨q', v', e1, e2, _⟩ | ⟨e1, e2⟩ <;> rw [e1, e2] <;> rfl
theorem k_dNotIn [d : DkR os q0 kqs] [kv : KeyV q k] (h : Gk L rs (rB (!(valR kqs k).isSome) :: st) os K) : Gk L rs (q0 :: q :: st) os (opk rDNotIn K) := fun σ vs H s => by
  obtain ⟨B, hs, c, ho, hr, hst⟩ := s
  cases hst with
  | cons g1 g2 =>
    cases g2 with
    | cons g3 g4 =>
      obtain ⟨a, kvs, rfl, hd, hk⟩ := d.get c ho g1
      rw [kv.get g3]
      refine ⟨a, valV kvs k, rfl, .inl ⟨kvs, k, hd, rfl, rfl⟩, h σ _ H ⟨B, hs, c, ho, hr, .cons ?_ g4⟩⟩
      show V.bl _ = V.bl _
      rcases hk.val (k := k) with ⟨q', v', e1, e2, _⟩ | ⟨e1, e2⟩ <;> rw [e1, e2] <;> rfl
theorem k_tIn [d : DtR os q0 tqs] [kv : KeyT q ks] (h : Gk L rs (rB (valR tqs ks).isSome :: st) os K) : Gk L rs (q0 :: q :: st) os (opk rDIn K) := fun σ vs H s => by
  obtain ⟨B, hs, c, ho, hr, hst⟩ := s
  cases hst with
  | cons g1 g2 =>
    cases g2 with
    | cons g3 g4 =>
      obtain ⟨a, kvs, rfl, hd, hk⟩ := d.get c ho g1
      obtain ⟨b, rfl, hb⟩ := kv.get g3
      refine ⟨a, valV kvs ks, rfl, .inr ⟨kvs, ks, b, hd, rfl, c.exact hb rfl, rfl⟩, h σ _ H ⟨B, hs, c, ho, hr, .cons ?_ g4⟩⟩
      show V.bl _ = V.bl _
      rcases hk.val (k := ks) with ⟨q', v', e1, e2, _⟩ | ⟨e1, e2⟩ <;> rw [e1, e2] <;> rfl
/-- d[k] -/
def dgetk (K : KK) : KK := fun σ vs H => match vs with
  | y :: x :: t => ∃ a v, x = .ref a ∧ DGet H a y (some v) ∧ K σ (v :: t) H
  | _ => False
theorem k_dget0 (h : Gk L rs st os (evk td (evk ty (dgetk K)))) : Gk L rs st os (evk (tDGet td ty) K) := h
theorem k_dget [d : DkR os q0 kqs] [kv : KeyV q k] (e : valR kqs k = some q1) (h : Gk L rs (q1 :: st) os K) : Gk L rs (q :: q0 :: st) os (dgetk K) := fun σ vs H s => by
  obtain ⟨B, hs, c, ho, hr, hst⟩ := s
  cases hst with
  | cons g1 g2 =>
    cases g2 with
    | cons g3 g4 =>
      obtain ⟨a, kvs, rfl, hd, hk⟩ := d.get c ho g3
      rw [kv.get g1]
      rcases hk.val (k := k) with ⟨q', v', e1, e2, e3⟩ | ⟨e1, e2⟩
      · rw [e] at e1; cases e1
        exact ⟨a, v', rfl, .inl ⟨kvs, k, hd, rfl, e2.symm⟩, h σ _ H ⟨B, hs, c, ho, hr, .cons e3 g4⟩⟩
      · rw [e] at e1; cases e1
theorem k_tget [d : DtR os q0 tqs] [kv : KeyT q ks] (e : valR tqs ks = some q1) (h : Gk L rs (q1 :: st) os K) : Gk L rs (q :: q0 :: st) os (dgetk K) := fun σ vs H s => by
  obtain ⟨B, hs, c, ho, hr, hst⟩ := s
  cases hst with
  | cons g1 g2 =>
    cases g2 with
    | cons g3 g4 =>
      obtain ⟨a, kvs, rfl, hd, hk⟩ := d.get c ho g3
      obtain ⟨b, rfl, hb⟩ := kv.get g1
      rcases hk.val (k := ks) with ⟨q', v', e1, e2, e3⟩ | ⟨e1, e2⟩
      · rw [e] at e1; cases e1
        exact ⟨a, v', rfl, .inr ⟨kvs, ks, b, hd, rfl, c.exact hb rfl, e2.symm⟩, h σ _ H ⟨B, hs, c, ho, hr, .cons e3 g4⟩⟩
      · rw [e] at e1; cases e1
/-- d.get(k, x): both ways -/
def dg2k (K : KK) : KK := fun σ vs H => match vs with
  | z :: y :: x :: t => ∃ a o, x = .ref a ∧ DGet H a y o ∧ K σ (o.getD z :: t) H
  | _ => False
theorem k_dget2 [d : DkR os q0 kqs] (h : Gk L rs (q0 :: st) os (evk ty (evk tx (dg2k K)))) : Gk L rs (q0 :: st) os (fun σ vs H => match vs with | x :: t => ∃ a, x = .ref a ∧ IsD H a ∧ ty σ H fun y H2 => tx σ H2 fun z H3 => ∃ o, DGet H3 a y o ∧ K σ (o.getD z :: t) H3 | [] => False) := fun σ vs H s => by
  have z := h σ vs H s
  obtain ⟨B, hs, c, ho, hr, hst⟩ := s
  cases hst with
  | @cons _ x _ t g1 g2 =>
    obtain ⟨a, kvs, rfl, hd, hk⟩ := d.get c ho g1
    refine ⟨a, rfl, .inl ⟨kvs, hd⟩, ?_⟩
    have e : (fun (y : V) (H2 : Hp) => tx σ H2 fun z H3 => ∃ o, DGet H3 a y o ∧ K σ (o.getD z :: t) H3) = fun y H2 => evk tx (dg2k K) σ (y :: V.ref a :: t) H2 := by
      funext y H2
      show _ = tx σ H2 fun z H3 => dg2k K σ (z :: y :: V.ref a :: t) H3
      congr 1
      funext z H3
      show (∃ o, DGet H3 a y o ∧ K σ (o.getD z :: t) H3) = ∃ a' o, V.ref a = .ref a' ∧ DGet H3 a' y o ∧ K σ (o.getD z :: t) H3
      apply propext
      constructor
      · rintro ⟨o, h1, h2⟩; exact ⟨a, o, rfl, h1, h2⟩
      · rintro ⟨a', o, h0, h1, h2⟩; cases h0; exact ⟨o, h1, h2⟩
    rw [e]
    exact z
theorem k_dget20 (h : Gk L rs st os (evk td (fun σ vs H => match vs with | x :: t => ∃ a, x = .ref a ∧ IsD H a ∧ ty σ H fun y H2 => tx σ H2 fun z H3 => ∃ o, DGet H3 a y o ∧ K σ (o.getD z :: t) H3 | [] => False))) : Gk L rs st os (evk (tDGet2 td ty tx) K) := h
theorem k_dget2k {qd : R} [d : DkR os q0 kqs] [kv : KeyV q k] (h : Gk L rs ((valR kqs k).getD qd :: st) os K) : Gk L rs (qd :: q :: q0 :: st) os (dg2k K) := fun σ vs H s => by
  obtain ⟨B, hs, c, ho, hr, hst⟩ := s
  cases hst with
  | cons g0 g1 =>
    cases g1 with
    | cons g1 g2 =>
      cases g2 with
      | cons g3 g4 =>
        obtain ⟨a, kvs, rfl, hd, hk⟩ := d.get c ho g3
        rw [kv.get g1]
        refine ⟨a, valV kvs k, rfl, .inl ⟨kvs, k, hd, rfl, rfl⟩, h σ _ H ⟨B, hs, c, ho, hr, .cons ?_ g4⟩⟩
        rcases hk.val (k := k) with ⟨q', v', e1, e2, e3⟩ | ⟨e1, e2⟩
        · rw [e1, e2]; exact e3
        · rw [e1, e2]; exact g0
/-- d[k] = v -/
def dputk (D : Ends) : KK := fun σ vs H => match vs with
  | y :: x :: v :: _ => ∃ a H4, x = .ref a ∧ DPut H a y v H4 ∧ D.nx σ H4
  | _ => False
theorem k_dput0 (h : Gk L rs st os (evk tv (evk td (evk ty (dputk D))))) : Gk L rs st os (stk (sDPut td ty tv) D) := fun σ vs H s => h σ vs H s
theorem k_dput [d : AtK os a kqs j] [kv : KeyV q k] (hz : kqs.length ≤ 10000) [o : SetO os j (oDk a (putKR kqs k q1)) os'] (h : Gk L rs st os' (nxk D)) : Gk L rs (q :: rA a :: q1 :: st) os (dputk D) := fun σ vs H s => by
  obtain ⟨B, hs, c, ho, hr, hst⟩ := s
  obtain ⟨g, hg, kvs, rfl, hw⟩ := pget ho d.e
  cases hst with
  | cons g1 g2 =>
    cases g2 with
    | cons g3 g4 =>
      cases g4 with
      | cons g5 g6 =>
        rw [kv.get g1, show _ = V.ref a from g3]
        refine ⟨a, _, rfl, .inl ⟨kvs, k, c.own _ (c.mem hg) a _ sgl_same, rfl, by rw [← hw.len]; exact Nat.lt_of_le_of_lt hz (by decide), rfl⟩, h σ _ _ ⟨B, _, c.mut hg, ?_, hr, g6⟩⟩
        rw [← o.e]
        exact pset ⟨_, rfl, hw.put g5⟩ j ho
theorem k_tput [d : AtT os a tqs j] [kv : KeyT q ks] (hz : tqs.length ≤ 10000) [o : SetO os j (oDt a (putKR tqs ks q1)) os'] (h : Gk L rs st os' (nxk D)) : Gk L rs (q :: rA a :: q1 :: st) os (dputk D) := fun σ vs H s => by
  obtain ⟨B, hs, c, ho, hr, hst⟩ := s
  obtain ⟨g, hg, kvs, rfl, hw⟩ := pget ho d.e
  cases hst with
  | cons g1 g2 =>
    cases g2 with
    | cons g3 g4 =>
      cases g4 with
      | cons g5 g6 =>
        obtain ⟨b, rfl, hb⟩ := kv.get g1
        rw [show _ = V.ref a from g3]
        refine ⟨a, _, rfl, .inr ⟨kvs, ks, b, c.own _ (c.mem hg) a _ sgl_same, rfl, c.exact hb rfl, by rw [← hw.len]; exact Nat.lt_of_le_of_lt hz (by decide), rfl⟩, h σ _ _ ⟨B, _, c.mut hg, ?_, hr, g6⟩⟩
        rw [← o.e]
        exact pset ⟨_, rfl, hw.put g5⟩ j ho
/-- del d[k] -/
def ddelk (D : Ends) : KK := fun σ vs H => match vs with
  | y :: x :: _ => ∃ a kvs k, x = .ref a ∧ H a = some (.dK kvs) ∧ y = kV k ∧ (valV kvs k).isSome = true ∧ D.nx σ (upd H a (.dK (dropK kvs k)))
  | _ => False
theorem k_ddel0 (h : Gk L rs st os (evk td (evk ty (ddelk D)))) : Gk L rs st os (stk (sDDel td ty) D) := fun σ vs H s => h σ vs H s
theorem k_ddel [d : AtK os a kqs j] [kv : KeyV q k] (hz : (valR kqs k).isSome = true) [o : SetO os j (oDk a (dropKR kqs k)) os'] (h : Gk L rs st os' (nxk D)) : Gk L rs (q :: rA a :: st) os (ddelk D) := fun σ vs H s => by
  obtain ⟨B, hs, c, ho, hr, hst⟩ := s
  obtain ⟨g, hg, kvs, rfl, hw⟩ := pget ho d.e
  cases hst with
  | cons g1 g2 =>
    cases g2 with
    | cons g3 g4 =>
      rw [kv.get g1, show _ = V.ref a from g3]
      refine ⟨a, kvs, k, rfl, c.own _ (c.mem hg) a _ sgl_same, rfl, ?_, h σ _ _ ⟨B, _, c.mut hg, ?_, hr, g4⟩⟩
      · rcases hw.val (k := k) with ⟨q', v', e1, e2, e3⟩ | ⟨e1, e2⟩
        · rw [e2]; rfl
        · rw [e1] at hz; cases hz
      · rw [← o.e]
        exact pset ⟨_, rfl, hw.drop⟩ j ho
/-- {} -/
theorem k_dnewK (h : ∀ p, Gk L rs (rA p :: st) (oDk p [] :: os) K) : Gk L rs st os (evk tDNewK K) := fun σ vs H s p hp => by
  obtain ⟨B, hs, c, ho, hr, hst⟩ := s
  exact h p _ _ _ ⟨B, _, c.newO hp, .cons ⟨[], rfl, .nil⟩ ho, hr, .cons rfl hst⟩
theorem k_dnewT (h : ∀ p, Gk L rs (rA p :: st) (oDt p [] :: os) K) : Gk L rs st os (evk tDNewT K) := fun σ vs H s p hp => by
  obtain ⟨B, hs, c, ho, hr, hst⟩ := s
  exact h p _ _ _ ⟨B, _, c.newO hp, .cons ⟨[], rfl, .nil⟩ ho, hr, .cons rfl hst⟩
theorem k_frzK [h : AtK os a kqs j] [o : SetO os j (oIs (.ref a) (rDk kqs)) os'] (k : Gk L rs st os' K) : Gk L rs st os K :=
  k_frz (a := a) (O := oDk a kqs) (rDk kqs) (fun B h ⟨ws, e, hw⟩ => ⟨_, e, fun B' ex hB => ⟨a, ws, rfl, hB, hw.mono ex⟩⟩) j h.e (o.e.symm ▸ k)
theorem k_frzDt [h : AtT os a tqs j] [o : SetO os j (oIs (.ref a) (rDt tqs)) os'] (k : Gk L rs st os' K) : Gk L rs st os K :=
  k_frz (a := a) (O := oDt a tqs) (rDt tqs) (fun B h ⟨ws, e, hw⟩ => ⟨_, e, fun B' ex hB => ⟨a, ws, rfl, hB, hw.mono ex⟩⟩) j h.e (o.e.symm ▸ k)
end
end G
/-! GL7: numbers, tests, builtins that make sequences, slices, comprehensions. Own work. -/
namespace G
open PySem PySem.Spec PyProof.Rows L2

theorem ixU {X : Cx} (F : PySem.W.Frag) (h : X.K = F := by rfl) : IxR X (rIx F) := h ▸ ix_seq
theorem lenU {X : Cx} (F : PySem.W.Frag) (h : X.K = F := by rfl) : CallR X (.builtin "len") (rLen F) := h ▸ c_len
theorem eqU {X : Cx} (F : PySem.W.Frag) (hu : X.A.units + 64 < cLine) (h : X.K = F := by rfl) : OpR X (compareOp .Eq) (rEqU F) := h ▸ op_eqU hu
theorem neU {X : Cx} (F : PySem.W.Frag) (hu : X.A.units + 64 < cLine) (h : X.K = F := by rfl) : OpR X (compareOp .NotEq) (rNeU F) := h ▸ op_neU hu
theorem inU {X : Cx} (F : PySem.W.Frag) (hu : X.A.units + 65 < cLine) (h : X.K = F := by rfl) : OpR X (compareOp .In) (rInU F) := h ▸ op_inU hu
theorem notInU {X : Cx} (F : PySem.W.Frag) (hu : X.A.units + 65 < cLine) (h : X.K = F := by rfl) : OpR X (compareOp .NotIn) (rNotInU F) := h ▸ op_notInU hu

section
variable {L : Lk} {rs rs' : List (Option R)} {st as : List R} {os os' fr : List Own} {K : KK} {K2 : Bool → KK} {D : Ends} {F : PySem.W.Frag} {q q0 q1 : R} {a : Addr} {j : Nat} {v w : V} {i k : Int}
theorem k_sub (h : Gk L rs (rI (i - k) :: st) os K) : Gk L rs (rI k :: rI i :: st) os (opk (L2.rI0 fun i j => .int (i - j)) K) := k_I0 h
theorem k_mul (hc : CMul i k) (h : Gk L rs (rI (i * k) :: st) os K) : Gk L rs (rI k :: rI i :: st) os (opk (L2.rI CMul fun i j => .int (i * j)) K) := k_I hc h
theorem k_mod (hc : 0 < k) (h : Gk L rs (rI (i % k) :: st) os K) : Gk L rs (rI k :: rI i :: st) os (opk (L2.rI (fun _ j => 0 < j) fun i j => .int (i % j)) K) := k_I (C := fun _ j => 0 < j) hc h
theorem k_div (hc : CDiv i k) (h : Gk L rs (rI (i / k) :: st) os K) : Gk L rs (rI k :: rI i :: st) os (opk (L2.rI CDiv fun i j => .int (i / j)) K) := k_I hc h
theorem k_lt (h : Gk L rs (rB (decide (i < k)) :: st) os K) : Gk L rs (rI k :: rI i :: st) os (opk (L2.rI0 fun i j => .bl (decide (i < j))) K) := k_I0 h
theorem k_le2 (h : Gk L rs (rB (decide (i ≤ k)) :: st) os K) : Gk L rs (rI k :: rI i :: st) os (opk (L2.rI0 fun i j => .bl (decide (i ≤ j))) K) := k_I0 h
theorem k_gt (h : Gk L rs (rB (decide (k < i)) :: st) os K) : Gk L rs (rI k :: rI i :: st) os (opk (L2.rI0 fun i j => .bl (decide (j < i))) K) := k_I0 h
theorem k_ge (h : Gk L rs (rB (decide (k ≤ i)) :: st) os K) : Gk L rs (rI k :: rI i :: st) os (opk (L2.rI0 fun i j => .bl (decide (j ≤ i))) K) := k_I0 h
theorem k_neg (h : Gk L rs (rI (-i) :: st) os K) : Gk L rs (rI i :: st) os (unk (rU fun i => .int (-i)) K) := k_unV (fun H Q z => ⟨i, rfl, z⟩) h
theorem k_eqI (h : Gk L rs (rB (decide (i = k)) :: st) os K) : Gk L rs (rI k :: rI i :: st) os (opk (rEqU F) K) := k_eqU rfl (by
  have e : decide (V.int i = V.int k) = decide (i = k) := by
    by_cases z : i = k
    · subst z; simp
    · rw [decide_eq_false z, decide_eq_false (fun q => z (V.int.inj q))]
  rw [e]; exact h)
theorem k_neI (h : Gk L rs (rB (!decide (i = k)) :: st) os K) : Gk L rs (rI k :: rI i :: st) os (opk (rNeU F) K) := k_neU rfl (by
  have e : decide (V.int i = V.int k) = decide (i = k) := by
    by_cases z : i = k
    · subst z; simp
    · rw [decide_eq_false z, decide_eq_false (fun q => z (V.int.inj q))]
  rw [e]; exact h)
theorem k_eqS {x y : Str} (h : Gk L rs (rB (decide (x = y)) :: st) os K) : Gk L rs (rS y :: rS x :: st) os (opk (rEqU F) K) := k_eqU rfl (by
  have e : decide (V.str x = V.str y) = decide (x = y) := by
    by_cases z : x = y
    · subst z; simp
    · rw [decide_eq_false z, decide_eq_false (fun q => z (V.str.inj q))]
  rw [e]; exact h)
theorem k_neS {x y : Str} (h : Gk L rs (rB (!decide (x = y)) :: st) os K) : Gk L rs (rS y :: rS x :: st) os (opk (rNeU F) K) := k_neU rfl (by
  have e : decide (V.str x = V.str y) = decide (x = y) := by
    by_cases z : x = y
    · subst z; simp
    · rw [decide_eq_false z, decide_eq_false (fun q => z (V.str.inj q))]
  rw [e]; exact h)
theorem k_eqB {x y : Bool} (h : Gk L rs (rB (x == y) :: st) os K) : Gk L rs (rB y :: rB x :: st) os (opk (rEqU F) K) := k_eqU rfl (by
  have e : decide (V.bl x = V.bl y) = (x == y) := by cases x <;> cases y <;> rfl
  rw [e]; exact h)
theorem k_neB {x y : Bool} (h : Gk L rs (rB (x != y) :: st) os K) : Gk L rs (rB y :: rB x :: st) os (opk (rNeU F) K) := k_neU rfl (by
  have e : (!decide (V.bl x = V.bl y)) = (x != y) := by cases x <;> cases y <;> rfl
  rw [e]; exact h)
/-- a test whose answer is decided by a proposition -/
theorem k_ifD {t u : TS} {p : Prop} [Decidable p] (h1 : p → Gk L rs st os (stk t D)) (h2 : ¬ p → Gk L rs st os (stk u D)) : Gk L rs st os (ifk t u D (decide p)) := k_if2 (fun h => h1 (of_decide_eq_true h)) (fun h => h2 (of_decide_eq_false h))
theorem k_ifN {t u : TS} {p : Prop} [Decidable p] (h1 : ¬ p → Gk L rs st os (stk t D)) (h2 : p → Gk L rs st os (stk u D)) : Gk L rs st os (ifk t u D (!decide p)) := k_if2 (fun h => h1 (by simpa using h)) (fun h => h2 (by simpa using h))
theorem k_ifNB {t u : TS} {b : Bool} (h1 : b = false → Gk L rs st os (stk t D)) (h2 : b = true → Gk L rs st os (stk u D)) : Gk L rs st os (ifk t u D (!b)) := k_if2 (fun h => h1 (by simpa using h)) (fun h => h2 (by simpa using h))
/-- values by and, or, not -/
def andvk (tb : TE) (K : KK) : KK := fun σ vs H => match vs with
  | x :: t => ∃ c, x = .bl c ∧ if c = true then tb σ H (fun v H' => K σ (v :: t) H') else K σ (.bl false :: t) H
  | [] => False
def orvk (tb : TE) (K : KK) : KK := fun σ vs H => match vs with
  | x :: t => ∃ c, x = .bl c ∧ if c = true then K σ (.bl true :: t) H else tb σ H (fun v H' => K σ (v :: t) H')
  | [] => False
def notvk (K : KK) : KK := fun σ vs H => match vs with
  | x :: t => ∃ c, x = .bl c ∧ K σ (.bl (!c) :: t) H
  | [] => False
variable {ta tb te : TE} {tt tu : TT}
theorem k_andV0 (h : Gk L rs st os (evk ta (andvk tb K))) : Gk L rs st os (evk (tAndV ta tb) K) := h
theorem k_orV0 (h : Gk L rs st os (evk ta (orvk tb K))) : Gk L rs st os (evk (tOrV ta tb) K) := h
theorem k_notV0 (h : Gk L rs st os (evk ta (notvk K))) : Gk L rs st os (evk (tNotV ta) K) := h
theorem k_notV {b : Bool} (h : Gk L rs (rB (!b) :: st) os K) : Gk L rs (rB b :: st) os (notvk K) := fun σ vs H s => by
  obtain ⟨B, hs, c, ho, hr, hst⟩ := s
  cases hst with
  | cons g1 g2 => exact ⟨b, g1, h σ _ H ⟨B, hs, c, ho, hr, .cons rfl g2⟩⟩
theorem k_andV {b c : Bool} (h1 : b = true → ∀ K' : KK, Gk L rs (rB c :: st) os K' → Gk L rs st os (evk tb K')) (h : Gk L rs (rB (b && c) :: st) os K) : Gk L rs (rB b :: st) os (andvk tb K) := fun σ vs H s => by
  obtain ⟨B, hs, cu, ho, hr, hst⟩ := s
  cases hst with
  | @cons _ _ _ t g1 g2 =>
    refine ⟨b, g1, ?_⟩
    cases b with
    | true => rw [if_pos rfl]; exact h1 rfl K h σ t H ⟨B, hs, cu, ho, hr, g2⟩
    | false => rw [if_neg Bool.false_ne_true]; exact h σ _ H ⟨B, hs, cu, ho, hr, .cons rfl g2⟩
theorem k_orV {b c : Bool} (h1 : b = false → ∀ K' : KK, Gk L rs (rB c :: st) os K' → Gk L rs st os (evk tb K')) (h : Gk L rs (rB (b || c) :: st) os K) : Gk L rs (rB b :: st) os (orvk tb K) := fun σ vs H s => by
  obtain ⟨B, hs, cu, ho, hr, hst⟩ := s
  cases hst with
  | @cons _ _ _ t g1 g2 =>
    refine ⟨b, g1, ?_⟩
    cases b with
    | true => rw [if_pos rfl]; exact h σ _ H ⟨B, hs, cu, ho, hr, .cons rfl g2⟩
    | false => rw [if_neg Bool.false_ne_true]; exact h1 rfl K h σ t H ⟨B, hs, cu, ho, hr, g2⟩

/-! ### tuple(..), list(..) -/
def rTupU (F : PySem.W.Frag) : List V → Hp → VK → Prop := fun xs H Q => ∃ p ys, xs = [.ref p] ∧ ((SqL F H p ys ∧ ∀ l, H l = none → Q (.ref l) (upd H l (.tup ys))) ∨ (SqT F H p ys ∧ Q (.ref p) H))
theorem tupU {X : Cx} (F : PySem.W.Frag) (h : X.K = F := by rfl) : CallR X (.type "tuple") (rTupU F) := h ▸ call_tuple_of
def rLstU (F : PySem.W.Frag) : List V → Hp → VK → Prop := fun xs H Q => ∃ p ys, xs = [.ref p] ∧ (SqL F H p ys ∨ SqT F H p ys) ∧ ∀ l, H l = none → Q (.ref l) (upd H l (.lst ys))
theorem lstU {X : Cx} (F : PySem.W.Frag) (h : X.K = F := by rfl) : CallR X (.type "list") (rLstU F) := h ▸ call_list_of
theorem k_tupleL {qs : List R} [sl : SeqL F os q0 qs] (h : Gk L rs (rTp qs :: st) os K) : GA L rs [q0] st os (cbk (rTupU F) K) := fun σ us vs H hl s => by
  obtain ⟨B, hs, c, ho, hr, h1, h2⟩ := S.args hl s
  obtain ⟨v, rfl, e⟩ := all1 h1
  obtain ⟨a, ws, rfl, hl, hw⟩ := sl.get c ho e
  refine ⟨a, ws, rfl, .inl ⟨hl, fun l hn => h σ _ _ (newB c ho hr h2 hn ?_)⟩⟩
  exact ⟨l, ws, rfl, upd_same, AllR.mono (Ex.new (c.free hn)) hw⟩
theorem k_tupleT {qs : List R} (h : Gk L rs (rTp qs :: st) os K) : GA L rs [rTp qs] st os (cbk (rTupU F) K) := fun σ us vs H hl s => by
  obtain ⟨B, hs, c, ho, hr, h1, h2⟩ := S.args hl s
  obtain ⟨v, rfl, e⟩ := all1 h1
  obtain ⟨a, ws, rfl, hl, hw⟩ := id e
  exact ⟨a, ws, rfl, .inr ⟨.of (c.exact hl rfl), h σ _ _ ⟨B, hs, c, ho, hr, .cons e h2⟩⟩⟩
theorem k_listB {qs : List R} [sl : SeqL F os q0 qs] (h : Gk L rs (rLs qs :: st) os K) : GA L rs [q0] st os (cbk (rLstU F) K) := fun σ us vs H hl s => by
  obtain ⟨B, hs, c, ho, hr, h1, h2⟩ := S.args hl s
  obtain ⟨v, rfl, e⟩ := all1 h1
  obtain ⟨a, ws, rfl, hl, hw⟩ := sl.get c ho e
  refine ⟨a, ws, rfl, .inl hl, fun l hn => h σ _ _ (newB c ho hr h2 hn ?_)⟩
  exact ⟨l, ws, rfl, upd_same, AllR.mono (Ex.new (c.free hn)) hw⟩
theorem k_listT {qs : List R} [sl : StT F q0 qs] (h : Gk L rs (rLs qs :: st) os K) : GA L rs [q0] st os (cbk (rLstU F) K) := fun σ us vs H hl s => by
  obtain ⟨B, hs, c, ho, hr, h1, h2⟩ := S.args hl s
  obtain ⟨v, rfl, e⟩ := all1 h1
  obtain ⟨a, ws, rfl, hl, hw⟩ := sl.get e
  refine ⟨a, ws, rfl, .inr (c.sqT hl), fun l hn => h σ _ _ (newB c ho hr h2 hn ?_)⟩
  exact ⟨l, ws, rfl, upd_same, AllR.mono (Ex.new (c.free hn)) hw⟩

/-! ### unpacking -/
def gNames : List Nat → TGs
  | [] => gNil
  | i :: is => gCons (gName i) (gNames is)
def setAll (rs : List (Option R)) : List Nat → List R → List (Option R)
  | i :: is, q :: qs => setAll (rs.set i (some q)) is qs
  | _, _ => rs
theorem names_ok {B : Hp} {H : Hp} {Q : L2.St → Hp → Prop} : ∀ {is : List Nat} {qs : List R} {vs : List V} {rs : List (Option R)} {σ : L2.St}, AllR B qs vs → is.length = qs.length → Paired (slotOk B) rs σ → (∀ σ', Paired (slotOk B) (setAll rs is qs) σ' → Q σ' H) → gNames is vs σ H Q
  | [], [], _, rs, σ, .nil, _, hr, h => ⟨rfl, h σ hr⟩
  | i :: is, q :: qs, _, rs, σ, .cons g t, hl, hr, h => ⟨_, _, rfl, names_ok (is := is) (qs := qs) t (by simpa using hl) (pset (F := slotOk B) (a := some q) (b := some _) ⟨_, rfl, g⟩ i hr) h⟩
class SetAll (rs : List (Option R)) (is : List Nat) (qs : List R) (rs' : outParam (List (Option R))) : Prop where
  e : setAll rs is qs = rs'
instance {rs : List (Option R)} : SetAll rs [] [] rs := ⟨rfl⟩
instance {rs rs1 rs2 : List (Option R)} {i : Nat} {is : List Nat} {q : R} {qs : List R} [h : SetR rs i (some q) rs1] [t : SetAll rs1 is qs rs2] : SetAll rs (i :: is) (q :: qs) rs2 := ⟨by show setAll (rs.set i (some q)) is qs = rs2; rw [h.e]; exact t.e⟩
theorem k_unpack {is : List Nat} {n : Nat} {qs : List R} [sl : StT F q0 qs] (hn : qs.length = n) (hi : is.length = n) [sa : SetAll rs is qs rs'] (h : Gk L rs' st os (nxk D)) : Gk L rs (q0 :: st) os (tgk (gTup F n (gNames is)) D) := fun σ vs H s => by
  obtain ⟨B, hs, c, ho, hr, hst⟩ := s
  cases hst with
  | @cons _ _ _ t g1 g2 =>
    obtain ⟨a, ws, rfl, hl, hw⟩ := sl.get g1
    refine ⟨a, ws, rfl, c.sqT hl, by rw [← AllR.len hw]; exact hn, names_ok hw (by rw [hi, hn]) hr fun σ' hr' => h σ' t H ⟨B, hs, c, ho, ?_, g2⟩⟩
    rw [sa.e] at hr'
    exact hr'
end
theorem pg_unp {X : Cx} (F : PySem.W.Frag) {tg : Expr} {n : Nat} {is : List Nat} (h : PG X tg (gTup X.K n (gNames is))) (e : X.K = F := by rfl) : PG X tg (gTup F n (gNames is)) := e ▸ h

/-! ### comprehensions -/
def wipeR (rs : List (Option R)) : List Nat → List (Option R)
  | [] => rs
  | i :: is => wipeR (rs.set i none) is
end G
/-! GL8: what is walked; comprehensions. Own work. -/
namespace G
open PySem PySem.Spec PyProof.Rows L2

/-! ### wiped slots -/
theorem wipe_get {σ : L2.St} {i : Nat} : ∀ {vs : List Nat}, i ∈ vs → i < σ.length → (wipe σ vs)[i]? = some none
  | [], h, _ => by cases h
  | v :: vs, h, hl => by
    unfold wipe
    by_cases e : v = i
    · subst e
      rw [List.getElem?_set_self (by rw [wipe_length]; exact hl)]
    · rw [List.getElem?_set_ne e]
      exact wipe_get (by rcases List.mem_cons.mp h with z | z; exact absurd z.symm e; exact z) hl
theorem wipe_ext {σ τ : L2.St} {vs : List Nat} (hl : σ.length = τ.length) (h : ∀ i, i ∉ vs → σ[i]? = τ[i]?) : wipe σ vs = wipe τ vs := by
  apply List.ext_getElem?
  intro i
  by_cases m : i ∈ vs
  · by_cases z : i < σ.length
    · rw [wipe_get m z, wipe_get m (by omega)]
    · rw [List.getElem?_eq_none (by rw [wipe_length]; omega), List.getElem?_eq_none (by rw [wipe_length]; omega)]
  · rw [wipe_out m, wipe_out m]; exact h i m
theorem wipe_set {σ : L2.St} {vs : List Nat} {i : Nat} {v : Option V} (m : i ∈ vs) : wipe ((wipe σ vs).set i v) vs = wipe σ vs :=
  wipe_ext (by rw [List.length_set, wipe_length]) fun k hk => by
    rw [List.getElem?_set_ne (fun e => hk (by rw [← e]; exact m)), wipe_out hk]
/-- slots that a comprehension does not know -/
def wipeS (rs : List (Option R)) : List Nat → List (Option R)
  | [] => rs
  | v :: vs => (wipeS rs vs).set v none
theorem wipe_ok {B : Hp} {rs : List (Option R)} {σ : L2.St} (h : Paired (slotOk B) rs σ) : ∀ vs : List Nat, Paired (slotOk B) (wipeS rs vs) (wipe σ vs)
  | [] => h
  | v :: vs => pset (F := slotOk B) (a := none) (b := none) trivial v (wipe_ok h vs)
class WipeS (rs : List (Option R)) (vs : List Nat) (rs' : outParam (List (Option R))) : Prop where
  e : wipeS rs vs = rs'
instance {rs : List (Option R)} : WipeS rs [] rs := ⟨rfl⟩
instance {rs rs1 rs2 : List (Option R)} {v : Nat} {vs : List Nat} [t : WipeS rs vs rs1] [h : SetR rs1 v none rs2] : WipeS rs (v :: vs) rs2 := ⟨by show (wipeS rs vs).set v none = rs2; rw [t.e, h.e]⟩

/-! ### what is walked -/
structure Src (L : Lk) (J : It) (n : Nat) (Y : Nat → R) (gh : R) : Prop where
  go : ∀ {i : Nat} {B : Hp} {hs : List Hp} {H : Hp}, i < n → Cur L B hs H → gh.p B .non → J.go i H
  stop : ∀ {B : Hp} {hs : List Hp} {H : Hp}, Cur L B hs H → gh.p B .non → J.stop n H
  yld : ∀ {i : Nat} {B : Hp} {hs : List Hp} {H : Hp} {x : V} {H' : Hp}, i < n → Cur L B hs H → gh.p B .non → J.yld i H x H' → ∃ B', Ex B B' ∧ Cur L B' hs H' ∧ (Y i).p B' x
theorem src_list {L : Lk} {F : PySem.W.Frag} {a : Addr} {ws : List V} {qs : List R} (hn : qs.length = ws.length) : Src L (Itl F a) qs.length (fun i => qs.getD i rAny) (rLv F a ws qs) where
  go := fun {i B hs H} hi c g => ⟨ws, ws[i]'(by omega), c.sqL g.2.1, by simp⟩
  stop := fun c g => ⟨ws, c.sqL g.2.1, by omega⟩
  yld := fun {i B hs H x H'} hi c g y => by
    obtain ⟨rfl, y⟩ := y
    have e := y ws (c.sqL g.2.1)
    obtain ⟨v, hv, hq⟩ := pget g.2.2 (List.getElem?_eq_getElem hi)
    rw [e] at hv; cases hv
    exact ⟨B, Ex.refl B, c, by rw [List.getD_eq_getElem?_getD, List.getElem?_eq_getElem hi]; exact hq⟩
theorem src_tup {L : Lk} {F : PySem.W.Frag} {a : Addr} {ws : List V} {qs : List R} (hn : qs.length = ws.length) : Src L (Itt F a) qs.length (fun i => qs.getD i rAny) (rTv F a ws qs) where
  go := fun {i B hs H} hi c g => ⟨ws, ws[i]'(by omega), c.sqT g.2.1, by simp⟩
  stop := fun c g => ⟨ws, c.sqT g.2.1, by omega⟩
  yld := fun {i B hs H x H'} hi c g y => by
    obtain ⟨rfl, y⟩ := y
    have e := y ws (c.sqT g.2.1)
    obtain ⟨v, hv, hq⟩ := pget g.2.2 (List.getElem?_eq_getElem hi)
    rw [e] at hv; cases hv
    exact ⟨B, Ex.refl B, c, by rw [List.getD_eq_getElem?_getD, List.getElem?_eq_getElem hi]; exact hq⟩
theorem src_rng {L : Lk} {lo : Int} {n : Nat} : Src L (Itr lo n) n (fun i => rI (lo + i)) rN where
  go := fun hi _ _ => hi
  stop := fun _ _ => Nat.le_refl _
  yld := fun {i B hs H x H'} hi c g y => by
    obtain ⟨rfl, rfl⟩ := y
    exact ⟨B, Ex.refl B, c, rfl⟩
theorem src_rngC {L : Lk} {lo st : Int} {n : Nat} : Src L (Itc lo st n) n (fun i => rI (lo + i * st)) rN where
  go := fun hi _ _ => hi
  stop := fun _ _ => Nat.le_refl _
  yld := fun {i B hs H x H'} hi c g y => by
    obtain ⟨rfl, rfl⟩ := y
    exact ⟨B, Ex.refl B, c, rfl⟩

/-! ### a comprehension -/
def lcE (D : Addr) (Nx : Hp → Prop) : KK := fun _ vs H => match vs with
  | y :: _ => ∃ acc, H D = some (.lst acc) ∧ acc.length < sizeLine ∧ Nx (upd H D (.lst (acc ++ [y])))
  | [] => False
def lcB (te : TE) (Ke Kn : KK) (b : Bool) : KK := fun σ vs H => if b = true then te σ H (fun y H' => Ke σ (y :: vs) H') else Kn σ vs H
def lcK (J : It) (g : TG) (tt : TT) (te : TE) (vs : List Nat) (Qd : Addr → Hp → Prop) : L2.St → Hp → Prop := fun σ H1 => ∀ D, H1 D = none → ∃ W : Nat → Nat → Hp → Prop, (∃ m, W 0 m (upd H1 D (.lst []))) ∧ ∀ i m H, W i m H →
  (J.stop i H ∧ Qd D H) ∨ (J.go i H ∧ ∃ Nx : Hp → Prop, (∀ H', Nx H' → ∃ m', m' < m ∧ W (i + 1) m' H') ∧ ∀ x H', J.yld i H x H' → g x (wipe σ vs) H' fun σ2 H2 => wipe σ2 vs = wipe σ vs ∧ tt σ2 H2 fun b H3 =>
    if b = true then te σ2 H3 fun y H4 => ∃ acc, H4 D = some (.lst acc) ∧ acc.length < sizeLine ∧ Nx (upd H4 D (.lst (acc ++ [y]))) else Nx H3)
/-- how a comprehension's target is stored: some slots of its own -/
structure GOk (g : TG) (vs : List Nat) (q : R) (rs rs' : List (Option R)) : Prop where
  run : ∀ {B : Hp} {σ : L2.St} {H : Hp} {x : V} {L : Lk} {hs : List Hp} {Q : L2.St → Hp → Prop}, Cur L B hs H → q.p B x → Paired (slotOk B) rs (wipe σ vs) → (∀ σ2, wipe σ2 vs = wipe σ vs → Paired (slotOk B) rs' σ2 → Q σ2 H) → g x (wipe σ vs) H Q
theorem gok_name {i : Nat} {vs : List Nat} {q : R} {rs rs' : List (Option R)} (m : i ∈ vs) [h : SetR rs i (some q) rs'] : GOk (gName i) vs q rs rs' :=
  ⟨fun {B σ H x L hs Q} c hq hr k => k _ (wipe_set m) (by rw [← h.e]; exact pset (F := slotOk B) (a := some q) (b := some x) ⟨x, rfl, hq⟩ i hr)⟩
theorem names_wipe {H : Hp} {vs : List Nat} {τ : L2.St} : ∀ {is : List Nat} {us : List V} {σ : L2.St} {Q : L2.St → Hp → Prop}, (∀ i ∈ is, i ∈ vs) → wipe σ vs = τ → gNames is us σ H (fun σ2 H2 => wipe σ2 vs = τ → Q σ2 H2) → gNames is us σ H Q
  | [], us, σ, Q, _, hw, ⟨h1, h2⟩ => ⟨h1, h2 hw⟩
  | i :: is, us, σ, Q, hm, hw, ⟨v, r, h1, h2⟩ => ⟨v, r, h1, names_wipe (is := is) (fun k hk => hm k (List.mem_cons_of_mem _ hk)) (by
      rw [← hw]
      exact wipe_ext (by rw [List.length_set]) fun k hk => by rw [List.getElem?_set_ne (fun e => hk (by rw [← e]; exact hm i List.mem_cons_self))]) h2⟩
theorem wipe_wipe {σ : L2.St} {vs : List Nat} : wipe (wipe σ vs) vs = wipe σ vs := wipe_ext (wipe_length _ _) fun k hk => wipe_out hk
theorem gok_names {F : PySem.W.Frag} {is vs : List Nat} {n : Nat} {q : R} {qs : List R} {rs rs' : List (Option R)} [sl : StT F q qs] (m : ∀ i ∈ is, i ∈ vs) (hn : qs.length = n) (hi : is.length = n) [sa : SetAll rs is qs rs'] : GOk (gTup F n (gNames is)) vs q rs rs' :=
  ⟨fun {B σ H x L hs Q} c hq hr k => by
    obtain ⟨a, ws, rfl, hl, hw⟩ := sl.get hq
    refine ⟨a, ws, rfl, c.sqT hl, by rw [← AllR.len hw]; exact hn, names_wipe m wipe_wipe (names_ok hw (by rw [hi, hn]) hr fun σ' hr' e => k σ' e (by rw [sa.e] at hr'; exact hr'))⟩⟩

theorem lc_src {L : Lk} {J : It} {n : Nat} {Y : Nat → R} {gh : R} (src : Src L J n Y gh) {g : TG} {tt : TT} {te : TE} {vs : List Nat} {Qd : Addr → Hp → Prop} {rs rw : List (Option R)} {st : List R} {os : List Own}
    {T : Type} (Jv : Nat → T → Prop) (accF : T → List R) (osF : T → List Own) (rsI : Nat → List (Option R)) (s0 : T) (h0 : Jv 0 s0) (a0 : accF s0 = []) (o0 : os = osF s0) (hn : n ≤ 10000) (hwp : wipeS rs vs = rw) (hg : ∀ i, i < n → GOk g vs (Y i) rw (rsI i))
    (turn : ∀ (i : Nat) (s : T) (D : Addr) (Ke Kn : KK) (gx : R), i < n → Jv i s →
      (∀ (q : R) (s' : T) (rs : List (Option R)), Jv (i + 1) s' → accF s' = accF s ++ [q] → Gk L rs (q :: gx :: st) (oLs D (accF s) :: osF s') Ke) → (∀ (s' : T) (rs : List (Option R)), Jv (i + 1) s' → accF s' = accF s → Gk L rs (gx :: st) (oLs D (accF s) :: osF s') Kn) →
      Gk L (rsI i) (gx :: st) (oLs D (accF s) :: osF s) (tk tt (lcB te Ke Kn)))
    {σ : L2.St} {tl : List V} {H : Hp} (done : ∀ (s : T) (D : Addr) (H' : Hp), Jv n s → S L rs (gh :: st) (oLs D (accF s) :: osF s) σ (.non :: tl) H' → Qd D H')
    (s : S L rs (gh :: st) os σ (.non :: tl) H) : lcK J g tt te vs Qd σ H := by
  intro D hD
  let W : Nat → Hp → Prop := fun i H => ∃ (s : T) (B : Hp) (hs : List Hp), Jv i s ∧ (accF s).length ≤ i ∧ Cur L B hs H ∧ Paired (fun O h => Own.p O B h) (oLs D (accF s) :: osF s) hs ∧ Paired (slotOk B) rs σ ∧ Paired (fun r v => R.p r B v) (gh :: st) (.non :: tl)
  refine ⟨fun i m H => m = n - i ∧ i ≤ n ∧ W i H, ?_, ?_⟩
  · obtain ⟨B, hs, c, ho, hr, hst⟩ := s
    exact ⟨_, rfl, Nat.zero_le _, s0, B, _, h0, by rw [a0]; exact Nat.le_refl _, c.newO hD, .cons ⟨[], rfl, by rw [a0]; exact .nil⟩ (by rw [← o0]; exact ho), hr, hst⟩
  rintro i m H ⟨rfl, hi, s, B, hs, jv, hl, c, ho, hr, hst⟩
  have hgh : gh.p B .non := by cases hst with | cons a b => exact a
  by_cases z : i < n
  · refine .inr ⟨src.go z c hgh, W (i + 1), fun H' h => ⟨n - (i + 1), by omega, rfl, z, h⟩, fun x H' y => ?_⟩
    obtain ⟨B', ex, c', hY⟩ := src.yld z c hgh y
    have ho' : Paired (fun O h => Own.p O B' h) (oLs D (accF s) :: osF s) hs := pmap ho fun O _ q => O.mono ex q
    have hr' : Paired (slotOk B') rs σ := pmap hr fun _ _ q => q.mono ex
    have hst' : Paired (fun r v => R.p r B' v) (gh :: st) (.non :: tl) := pmap hst fun q _ r => q.mono ex r
    refine (hg i z).run c' hY (hwp ▸ wipe_ok hr' vs) fun σ2 hw2 hr2 => ⟨hw2, ?_⟩
    -- the original slots and the stack are not forgotten: kept as a word about a ghost
    let gx : R := ⟨fun B v => v = .non ∧ Paired (fun r v => R.p r B v) (gh :: st) (.non :: tl) ∧ Paired (slotOk B) rs σ, fun e ⟨h0, h1, h2⟩ => ⟨h0, pmap h1 fun q _ r => q.mono e r, pmap h2 fun _ _ q => q.mono e⟩⟩
    refine turn i s D (lcE D (W (i + 1))) (fun _ _ H' => W (i + 1) H') gx z jv
      (fun q s' rs' js' ea σ' us' H' z => ?_) (fun s' rs' js' ea σ' us' H' z => ?_) σ2 (.non :: tl) H' ⟨B', hs, c', ho', hr2, by
        cases hst' with
        | cons a b => exact .cons ⟨rfl, .cons a b, hr'⟩ b⟩
    · obtain ⟨B2, hs2, c2, ho2, hr2, hst2⟩ := z
      cases hst2 with
      | cons g1 g2 =>
        cases g2 with
        | cons g3 g4 =>
          cases ho2 with
          | @cons _ h0 _ ht k1 k2 =>
            obtain ⟨ws, rfl, hw⟩ := k1
            have hH := c2.own _ List.mem_cons_self D _ sgl_same
            have hlw : ws.length ≤ i := by rw [← AllR.len hw]; exact hl
            refine ⟨ws, hH, Nat.lt_of_le_of_lt (Nat.le_trans hlw (by omega : i ≤ 10000)) (by decide), s', B2, _, js', ?_, c2.mut (j := 0) rfl, .cons ⟨_, rfl, by rw [ea]; exact papp hw (.cons g1 .nil)⟩ k2, g3.2.2, g3.2.1⟩
            rw [ea, List.length_append, List.length_singleton]; omega
    · obtain ⟨B2, hs2, c2, ho2, hr2, hst2⟩ := z
      cases hst2 with
      | cons g3 g4 => exact ⟨s', B2, hs2, js', by rw [ea]; omega, c2, by rw [ea]; exact ho2, g3.2.2, g3.2.1⟩
  · have e : i = n := by omega
    subst e
    exact .inl ⟨src.stop c hgh, done s D H jv ⟨B, hs, c, ho, hr, hst⟩⟩

/-! ### comprehensions that only look -/
theorem take_snoc {α : Type} {xs : List α} {i : Nat} {x : α} (e : xs[i]? = some x) : xs.take (i + 1) = xs.take i ++ [x] := by
  rw [List.take_add_one, e]; rfl
theorem lc_pure {L : Lk} {J : It} {α : Type} {xs : List α} {t : α → R} {Y : Nat → R} {gh : R} (src : Src L J xs.length Y gh) (hY : ∀ (i : Nat) x, xs[i]? = some x → Y i = t x) {g : TG} {tt : TT} {te : TE} {vs : List Nat} {Qd : Addr → Hp → Prop} {rs rw : List (Option R)} {st : List R} {os : List Own}
    (p : α → Bool) (r : α → R) (rsI : α → List (Option R)) (hn : xs.length ≤ 10000) (hwp : wipeS rs vs = rw) (hg : ∀ x, GOk g vs (t x) rw (rsI x))
    (turn : ∀ x, x ∈ xs → ∀ (gx : R) (D : Addr) (acc : List R) (K2 : Bool → KK), Gk L (rsI x) (gx :: st) (oLs D acc :: os) (K2 (p x)) → Gk L (rsI x) (gx :: st) (oLs D acc :: os) (tk tt K2))
    (elt : ∀ x, x ∈ xs → p x = true → ∀ (gx : R) (D : Addr) (acc : List R) (K' : KK), Gk L (rsI x) (r x :: gx :: st) (oLs D acc :: os) K' → Gk L (rsI x) (gx :: st) (oLs D acc :: os) (evk te K'))
    {σ : L2.St} {tl : List V} {H : Hp} (done : ∀ (D : Addr) (H' : Hp), S L rs (gh :: st) (oLs D ((xs.filter p).map r) :: os) σ (.non :: tl) H' → Qd D H')
    (s : S L rs (gh :: st) os σ (.non :: tl) H) : lcK J g tt te vs Qd σ H := by
  have gi : ∀ i, i < xs.length → ∃ x, xs[i]? = some x := fun i hi => ⟨_, List.getElem?_eq_getElem hi⟩
  refine lc_src src (T := Nat) (fun i s => s = i) (fun i => ((xs.take i).filter p).map r) (fun _ => os) (fun i => match xs[i]? with | some x => rsI x | none => []) 0 rfl rfl rfl hn hwp (fun i hi => ?_) (fun i s D Ke Kn gx hi js hE hN => ?_) (fun s D H' js => ?_) s
  · obtain ⟨x, e⟩ := gi i hi
    rw [hY i x e, e]; exact hg x
  · subst js
    obtain ⟨x, e⟩ := gi s hi
    rw [e]
    have ts := take_snoc e
    have hx : x ∈ xs := List.mem_of_getElem? e
    refine turn x hx gx D _ _ ?_
    cases z : p x with
    | true =>
      intro σ us H w
      show (if true = true then _ else _)
      rw [if_pos rfl]
      refine elt x hx z gx D _ _ (hE (r x) (s + 1) _ rfl ?_) σ us H w
      show ((xs.take (s + 1)).filter p).map r = _
      rw [ts, List.filter_append, List.map_append, List.filter_cons_of_pos (by simpa using z)]; rfl
    | false =>
      intro σ us H w
      show (if false = true then _ else _)
      rw [if_neg Bool.false_ne_true]
      refine hN (s + 1) _ rfl ?_ σ us H w
      show ((xs.take (s + 1)).filter p).map r = _
      rw [ts, List.filter_append, List.map_append, List.filter_cons_of_neg (by simp [z])]; simp
  · subst js
    have e : xs.take xs.length = xs := List.take_length
    show S L rs (gh :: st) (oLs D (((xs.take xs.length).filter p).map r) :: os) σ (.non :: tl) H' → Qd D H'
    rw [e]
    exact done D H'
def lcLk (F : PySem.W.Frag) (g : TG) (tt : TT) (te : TE) (vs : List Nat) (K : KK) : KK := fun σ us H => match us with
  | x :: t => ∃ a, x = .ref a ∧ (∃ xs, SqL F H a xs) ∧ lcK (Itl F a) g tt te vs (fun D H => K σ (.ref D :: t) H) σ H
  | [] => False
def lcTk (F : PySem.W.Frag) (g : TG) (tt : TT) (te : TE) (vs : List Nat) (K : KK) : KK := fun σ us H => match us with
  | x :: t => ∃ a, x = .ref a ∧ (∃ xs, SqT F H a xs) ∧ lcK (Itt F a) g tt te vs (fun D H => K σ (.ref D :: t) H) σ H
  | [] => False
def lcRk (g : TG) (tt : TT) (te : TE) (vs : List Nat) (K : KK) (as : List V) : KK := fun σ us H => ∃ j : Int, as = [.int j] ∧ -(2 ^ 62) ≤ j ∧ j < 2 ^ 62 ∧ lcK (Itr 0 j.toNat) g tt te vs (fun D H => K σ (.ref D :: us) H) σ H
def lcR3k (g : TG) (tt : TT) (te : TE) (vs : List Nat) (K : KK) (as : List V) : KK := fun σ us H => ∃ (i j c : Int) (n : Nat), as = [.int i, .int j, .int c] ∧ RgC i j c n ∧ lcK (Itc i c n) g tt te vs (fun D H => K σ (.ref D :: us) H) σ H
def rngL (lo st : Int) (n : Nat) : List Int := (List.range n).map fun (i : Nat) => lo + (i : Int) * st
theorem rngL_get {lo st : Int} {n i : Nat} {x : Int} (e : (rngL lo st n)[i]? = some x) : x = lo + (i : Int) * st := by
  unfold rngL at e
  rw [List.getElem?_map] at e
  by_cases h : i < n
  · rw [List.getElem?_range h] at e; cases e; rfl
  · rw [List.getElem?_eq_none (by simpa using h)] at e; cases e
theorem rngL_len {lo st : Int} {n : Nat} : (rngL lo st n).length = n := by unfold rngL; simp
section
variable {L : Lk} {rs rw : List (Option R)} {st : List R} {os : List Own} {K : KK} {F : PySem.W.Frag} {tl te : TE} {g : TG} {tt : TT} {vs : List Nat} {ta : TA} {q0 : R}
theorem k_lcL0 (h : Gk L rs st os (evk tl (lcLk F g tt te vs K))) : Gk L rs st os (evk (tLc (iList F tl) g tt te vs) K) := h
theorem k_lcT0 (h : Gk L rs st os (evk tl (lcTk F g tt te vs K))) : Gk L rs st os (evk (tLc (iTup F tl) g tt te vs) K) := h
theorem k_lcR0 (h : Gk L rs st os (ak ta (lcRk g tt te vs K))) : Gk L rs st os (evk (tLc (iRng1 ta) g tt te vs) K) := h
theorem k_lcR30 (h : Gk L rs st os (ak ta (lcR3k g tt te vs K))) : Gk L rs st os (evk (tLc (iRng3 ta) g tt te vs) K) := h
theorem k_lcL {α : Type} {xs : List α} {t : α → R} [sl : StL F q0 (xs.map t)] (p : α → Bool) (r : α → R) [w : WipeS rs vs rw] (rsI : α → List (Option R)) (hn : xs.length ≤ 10000) (hg : ∀ x, GOk g vs (t x) rw (rsI x))
    (turn : ∀ x, x ∈ xs → ∀ (gx : R) (D : Addr) (acc : List R) (K2 : Bool → KK), Gk L (rsI x) (gx :: st) (oLs D acc :: os) (K2 (p x)) → Gk L (rsI x) (gx :: st) (oLs D acc :: os) (tk tt K2))
    (elt : ∀ x, x ∈ xs → p x = true → ∀ (gx : R) (D : Addr) (acc : List R) (K' : KK), Gk L (rsI x) (r x :: gx :: st) (oLs D acc :: os) K' → Gk L (rsI x) (gx :: st) (oLs D acc :: os) (evk te K'))
    (done : ∀ D, Gk L rs (rA D :: st) (oLs D ((xs.filter p).map r) :: os) K) : Gk L rs (q0 :: st) os (lcLk F g tt te vs K) := fun σ us H s => by
  obtain ⟨B, hs, c, ho, hr, hst⟩ := s
  cases hst with
  | @cons _ x _ tl h1 h2 =>
    obtain ⟨a, ws, rfl, hl, hw⟩ := sl.get h1
    have elen : (xs.map t).length = ws.length := AllR.len hw
    have src := src_list (L := L) (F := F) (a := a) elen
    rw [List.length_map] at src
    have s0 : S L rs (rLv F a ws (xs.map t) :: st) os σ (.non :: tl) H := ⟨B, hs, c, ho, hr, .cons ⟨rfl, hl, hw⟩ h2⟩
    refine ⟨a, rfl, ⟨ws, c.sqL hl⟩, lc_pure src (fun i x e => ?_) p r rsI hn w.e hg turn elt (fun D H' s => ?_) s0⟩
    · rw [List.getD_eq_getElem?_getD, List.getElem?_map, e]; rfl
    · obtain ⟨B, hs, c, ho, hr, hst⟩ := s
      cases hst with
      | cons a b => exact done D σ _ H' ⟨B, hs, c, ho, hr, .cons rfl b⟩
theorem k_lcT {α : Type} {xs : List α} {t : α → R} [sl : StT F q0 (xs.map t)] (p : α → Bool) (r : α → R) [w : WipeS rs vs rw] (rsI : α → List (Option R)) (hn : xs.length ≤ 10000) (hg : ∀ x, GOk g vs (t x) rw (rsI x))
    (turn : ∀ x, x ∈ xs → ∀ (gx : R) (D : Addr) (acc : List R) (K2 : Bool → KK), Gk L (rsI x) (gx :: st) (oLs D acc :: os) (K2 (p x)) → Gk L (rsI x) (gx :: st) (oLs D acc :: os) (tk tt K2))
    (elt : ∀ x, x ∈ xs → p x = true → ∀ (gx : R) (D : Addr) (acc : List R) (K' : KK), Gk L (rsI x) (r x :: gx :: st) (oLs D acc :: os) K' → Gk L (rsI x) (gx :: st) (oLs D acc :: os) (evk te K'))
    (done : ∀ D, Gk L rs (rA D :: st) (oLs D ((xs.filter p).map r) :: os) K) : Gk L rs (q0 :: st) os (lcTk F g tt te vs K) := fun σ us H s => by
  obtain ⟨B, hs, c, ho, hr, hst⟩ := s
  cases hst with
  | @cons _ x _ tl h1 h2 =>
    obtain ⟨a, ws, rfl, hl, hw⟩ := sl.get h1
    have elen : (xs.map t).length = ws.length := AllR.len hw
    have src := src_tup (L := L) (F := F) (a := a) elen
    rw [List.length_map] at src
    have s0 : S L rs (rTv F a ws (xs.map t) :: st) os σ (.non :: tl) H := ⟨B, hs, c, ho, hr, .cons ⟨rfl, hl, hw⟩ h2⟩
    refine ⟨a, rfl, ⟨ws, c.sqT hl⟩, lc_pure src (fun i x e => ?_) p r rsI hn w.e hg turn elt (fun D H' s => ?_) s0⟩
    · rw [List.getD_eq_getElem?_getD, List.getElem?_map, e]; rfl
    · obtain ⟨B, hs, c, ho, hr, hst⟩ := s
      cases hst with
      | cons a b => exact done D σ _ H' ⟨B, hs, c, ho, hr, .cons rfl b⟩
theorem k_lcR {z : Int} (hz : 0 ≤ z ∧ z ≤ 10000) (p : Int → Bool) (r : Int → R) [w : WipeS rs vs rw] (rsI : Int → List (Option R)) (hg : ∀ x, GOk g vs (rI x) rw (rsI x))
    (turn : ∀ x : Int, 0 ≤ x ∧ x < z → ∀ (gx : R) (D : Addr) (acc : List R) (K2 : Bool → KK), Gk L (rsI x) (gx :: st) (oLs D acc :: os) (K2 (p x)) → Gk L (rsI x) (gx :: st) (oLs D acc :: os) (tk tt K2))
    (elt : ∀ x : Int, 0 ≤ x ∧ x < z → p x = true → ∀ (gx : R) (D : Addr) (acc : List R) (K' : KK), Gk L (rsI x) (r x :: gx :: st) (oLs D acc :: os) K' → Gk L (rsI x) (gx :: st) (oLs D acc :: os) (evk te K'))
    (done : ∀ D, Gk L rs (rA D :: st) (oLs D (((rngL 0 1 z.toNat).filter p).map r) :: os) K) : GA L rs [rI z] st os (lcRk g tt te vs K) := fun σ us vs' H hl s => by
  obtain ⟨B, hs, c, ho, hr, h1, h2⟩ := S.args hl s
  obtain ⟨v, rfl, e⟩ := all1 h1
  have mem : ∀ x, x ∈ rngL 0 1 z.toNat → 0 ≤ x ∧ x < z := fun x hx => by
    unfold rngL at hx
    obtain ⟨i, hi, rfl⟩ := List.mem_map.mp hx
    have := List.mem_range.mp hi
    omega
  have src := src_rng (L := L) (lo := 0) (n := z.toNat)
  have hl : (rngL 0 1 z.toNat).length = z.toNat := rngL_len
  rw [← hl] at src
  have s0 : S L rs (rN :: st) os σ (.non :: vs') H := ⟨B, hs, c, ho, hr, .cons rfl h2⟩
  refine ⟨z, by rw [show v = V.int z from e], by omega, by omega, ?_⟩
  have q := lc_pure (t := rI) (Qd := fun D H => K σ (.ref D :: vs') H) (rs := rs) src (fun i x e => by rw [rngL_get e, Int.mul_one]) p r rsI (by rw [hl]; omega) w.e hg (fun x hx => turn x (mem x hx)) (fun x hx => elt x (mem x hx)) (fun D H' s => by
      obtain ⟨B, hs, c, ho, hr, hst⟩ := s
      cases hst with
      | cons a b => exact done D σ _ H' ⟨B, hs, c, ho, hr, .cons rfl b⟩) s0
  rw [hl] at q
  exact q
end
end G
/-! GL9: defs, methods, makers by contract; chains; written constants. Own work. -/
namespace G
open PySem PySem.Spec PyProof.Rows L2 C8

section
variable {P : Program} {w : World} {K : PySem.W.Frag} {mg : Str → Option Value} {base : Heap}
/-- what a def's body owes -/
def Owes (c : Ct) (N : List Str) (t : TS) : Prop := ∀ (d : c.δ) (L : Lk) (g : R) (fr : List Own) (Q : VK), c.ok d → RetOk L c d g fr Q → Gk L (slots N (c.pre d)) [g] (c.own d ++ fr) (stk t (D0 Q))
abbrev FnAt (K : PySem.W.Frag) (x qual : Str) (st : Stmt) (f : Addr) : Prop := ∃ fd, FunD K x qual (defArgs st) (defBody st) (defScope st) [] [] f fd
abbrev BindOk (x qual : Str) (st : Stmt) (ps : List Str) : Prop := ∀ (kV doc pm : Value) (an : Option Addr) (cdv ct : Value) (us : List Value), us.length = ps.length → bindArgs (PySem.W.fnOf x qual (defArgs st) (defBody st) (defScope st) .none kV doc pm an cdv ct) ⟨us, []⟩ = pure (ps.zip us)
theorem okD {x qual : Str} {st : Stmt} {f : Addr} {fd : FuncData} {N ps : List Str} {k : Nat} {c : Ct} (F : FunD K x qual (defArgs st) (defBody st) (defScope st) [] [] f fd) (S : FnScope N ps (defScope st)) (hp : ∀ d, (c.pre d).length = ps.length)
    (hbody : ∀ (cdv : Value) (A : Around) (outer : List Env) (s : Shared) (H : Hp) (E : XK), Room k (A.deeper (envOfC qual (defScope st) s.heap.objs.size f cdv)) →
      ∃ t, PSs (cxOf C8.CX0 P w K mg base N qual (defScope st) f cdv A outer s H E).nox (defBody st) t ∧ Owes c N t) : FnOk P w K mg base C8.CX0 (k + 1) f fd ps (Fn c) :=
  F.ok S (fun vs H Q E h => h.len hp) fun cdv A outer s H vs Q E hr h => by
    obtain ⟨t, h1, h2⟩ := hbody cdv A outer s H E hr
    exact ⟨t, h1.nox, body h h2⟩
theorem calD {x : Str} {st : Stmt} {N ps : List Str} {k : Nat} {c : Ct} (F : FnAt K x x st (He.ga K x)) (hm : mg x = some (.ref (He.ga K x))) (S : FnScope N ps (defScope st)) (hb : BindOk x x st ps) (hp : ∀ d, (c.pre d).length = ps.length)
    (hbody : ∀ (cdv : Value) (A : Around) (outer : List Env) (s : Shared) (H : Hp) (E : XK), Room k (A.deeper (envOfC x (defScope st) s.heap.objs.size (He.ga K x) cdv)) →
      ∃ t, PSs (cxOf C8.CX0 P w K mg base N x (defScope st) (He.ga K x) cdv A outer s H E).nox (defBody st) t ∧ Owes c N t) : Cal P w K mg base (k + 1) x (Fn c) [] := by
  obtain ⟨fd, F⟩ := F
  exact ⟨_, fd, ps, [], okD F S hp hbody, hm, F.kp, F.bindsN hb, .nil⟩
theorem metD {m qual : Str} {C : Addr} {st : Stmt} {N ps : List Str} {k : Nat} {c : Ct} (hc : Cls K C) (me : Meth K C m (He.ma K C m)) (F : FnAt K m qual st (He.ma K C m)) (S : FnScope N ps (defScope st)) (hb : BindOk m qual st ps) (hp : ∀ d, (c.pre d).length = ps.length)
    (hbody : ∀ (cdv : Value) (A : Around) (outer : List Env) (s : Shared) (H : Hp) (E : XK), Room k (A.deeper (envOfC qual (defScope st) s.heap.objs.size (He.ma K C m) cdv)) →
      ∃ t, PSs (cxOf C8.CX0 P w K mg base N qual (defScope st) (He.ma K C m) cdv A outer s H E).nox (defBody st) t ∧ Owes c N t) : Met P w K mg base (k + 1) C m (Fn c) [] := by
  obtain ⟨fd, F⟩ := F
  exact ⟨_, fd, ps, [], hc, me, okD F S hp hbody, F.bindsN hb, .nil⟩
theorem makD {x qual : Str} {C : Addr} {st : Stmt} {N ps : List Str} {k : Nat} {c : Ct} (M : Mk K C (He.ma K C "__init__")) (hm : mg x = some (.ref C)) (F : FnAt K "__init__" qual st (He.ma K C "__init__")) (S : FnScope N ps (defScope st)) (hb : BindOk "__init__" qual st ps) (hp : ∀ d, (c.pre d).length = ps.length)
    (hbody : ∀ (cdv : Value) (A : Around) (outer : List Env) (s : Shared) (H : Hp) (E : XK), Room k (A.deeper (envOfC qual (defScope st) s.heap.objs.size (He.ma K C "__init__") cdv)) →
      ∃ t, PSs (cxOf C8.CX0 P w K mg base N qual (defScope st) (He.ma K C "__init__") cdv A outer s H E).nox (defBody st) t ∧ Owes c N t) : Mak P w K mg base (k + 1) x C (Fn c) [] := by
  obtain ⟨fd, F⟩ := F
  exact ⟨_, fd, ps, [], M, okD F S hp hbody, hm, F.bindsN hb, .nil⟩
end

/-! ### chains of two comparisons -/
def chk (r' : R2) (tc : TE) (K : KK) : KK := fun σ vs H => match vs with
  | z :: y :: t => ∃ k, z = .bl k ∧ (if k = true then tc σ H fun w' H4 => r' y w' H4 fun u H' => K σ (u :: t) H' else K σ (.bl false :: t) H)
  | _ => False
/-- the operation, the right one kept under its answer -/
def opkK (r : R2) (K : KK) : KK := fun σ vs H => match vs with
  | y :: x :: t => r x y H fun z H' => K σ (z :: y :: t) H'
  | _ => False
section
variable {L : Lk} {rs : List (Option R)} {st : List R} {os : List Own} {K : KK} {r r' : R2} {ta tb tc : TE} {q q1 : R} {i k : Int}
theorem k_chain0 (h : Gk L rs st os (evk ta (evk tb (opkK r (chk r' tc K))))) : Gk L rs st os (evk (tChain r r' ta tb tc) K) := h
theorem k_opKV {v u z : V} (hr : ∀ (H : Hp) (Q : VK), Q z H → r v u H Q) (h : Gk L rs (rV z :: rV u :: st) os K) : Gk L rs (rV u :: rV v :: st) os (opkK r K) := fun σ vs H s => by
  obtain ⟨B, hs, c, ho, hrr, hst⟩ := s
  cases hst with
  | cons h1 h2 =>
    cases h2 with
    | cons h3 h4 =>
      rw [show _ = u from h1, show _ = v from h3]
      exact hr H _ (h σ _ H ⟨B, hs, c, ho, hrr, .cons rfl (.cons rfl h4)⟩)
theorem k_ltK (h : Gk L rs (rB (decide (i < k)) :: rI k :: st) os K) : Gk L rs (rI k :: rI i :: st) os (opkK (L2.rI0 fun i j => .bl (decide (i < j))) K) := k_opKV (fun H Q z => ⟨i, k, rfl, rfl, z⟩) h
theorem k_leK (h : Gk L rs (rB (decide (i ≤ k)) :: rI k :: st) os K) : Gk L rs (rI k :: rI i :: st) os (opkK (L2.rI0 fun i j => .bl (decide (i ≤ j))) K) := k_opKV (fun H Q z => ⟨i, k, rfl, rfl, z⟩) h
/-- the second comparison looks at plain values: both joined -/
theorem k_chJ {b c : Bool} {v : V} (h1 : b = true → ∀ K' : KK, Gk L rs (rB c :: st) os K' → Gk L rs (rV v :: st) os (evk tc (opk r' K'))) (h : Gk L rs (rB (b && c) :: st) os K) : Gk L rs (rB b :: rV v :: st) os (chk r' tc K) := fun σ vs H s => by
  obtain ⟨B, hs, cu, ho, hrr, hst⟩ := s
  cases hst with
  | cons g1 g2 =>
    cases g2 with
    | @cons _ _ _ t g3 g4 =>
      refine ⟨b, g1, ?_⟩
      cases b with
      | true =>
        rw [if_pos rfl]
        have q := h1 rfl K h σ _ H ⟨B, hs, cu, ho, hrr, .cons g3 g4⟩
        exact q
      | false =>
        rw [if_neg Bool.false_ne_true]
        exact h σ _ H ⟨B, hs, cu, ho, hrr, .cons rfl g4⟩
end

/-! ### written constants -/
class GlR (v : V) (q : outParam R) : Prop where
  e : ∀ B, q.p B v
theorem k_gl {L : Lk} {rs : List (Option R)} {st : List R} {os : List Own} {K : KK} {v : V} {q : R} [g : GlR v q] (h : Gk L rs (q :: st) os K) : Gk L rs st os (evk (tC v) K) := k_c g.e h
theorem glr_str {v : Value} {x : Str} (h : ∃ t, v = Value.str x t) : RelV (.str x) v := h
end G
/-! GL10: own __contains__, __getitem__, __eq__, __len__; wrappers. Own work. -/
namespace G
open PySem PySem.Spec PyProof.Rows L2 C8

theorem hu64_of {A : Around} {k : Nat} (hr : Room k A) : A.units + 64 < cLine := by have := hr.un; omega
theorem hu65_of {A : Around} {k : Nat} (hr : Room k A) : A.units + 65 < cLine := by have := hr.un; omega
section
variable {X : Cx} {j k : Nat} {C : Addr} {m : Str} {sp : Sp} {pins : List (Addr × Obj)} {σ : L2.St} {H : Hp} {s : Shared}
/-- a call of a method's def from within an operation -/
theorem met_call (c : Met X.prog X.w X.K X.mg X.base k C m sp []) {A : Around} (sb : Sub X k A) (I : Inv X pins σ H s) {us : List Value} {vs : List V} {Q' : VK} {Q : Value → Shared → Prop} (r : Vals vs us) (h : sp vs H Q' C8.E0)
    (hq : ∀ v u H' s', Inv X pins σ H' s' → RelV v u → Q' v H' → Q u s') : ∃ f, PySem.W.findIn X.K (.ref C) m = some (some (.ref f)) ∧ PySem.W.isFn X.K (.ref f) = true ∧ wpAny (model X.prog X.w) A (call (.ref f) us) Q X.xe s := by
  obtain ⟨f, fd, ps, ds, hc, hm, F, b, d⟩ := c.ex
  cases d
  refine ⟨f, hm.at_, hm.fn, ?_⟩
  have e0 : Env0 X.prog X.w X.K X.mg X.base A X.stack s H := by
    have e := I.env0
    exact ⟨by rw [sb.fr]; exact e.frames, e.mod, e.bs, e.bsz, e.funs, e.frf, e.hok, e.bare⟩
  have hl := F.len _ _ _ _ h
  refine wpAny_call (codeAny_mono (F.run A X.stack s H ⟨us, []⟩ us vs _ C8.E0 sb.room e0 (by
    have := b s us I.kIn (by rw [List.append_nil, ← r.length]; exact hl)
    simpa using this) r h) fun r s' hq' => ?_)
  cases r with
  | error e => exact False.elim hq'
  | ok fl =>
    cases fl with
    | ret w =>
      obtain ⟨z, H', I', rz, ez⟩ := I.after hq'
      exact hq z w H' s' I' rz ez
    | next => exact False.elim hq'
    | brk => exact False.elim hq'
    | cont => exact False.elim hq'
def rInI (C : Addr) (sp : Sp) : R2 := fun x y H Q => ∃ a dx fs, y = .ref a ∧ H a = some (.ins C dx fs) ∧ sp [.ref a, x] H (fun z H' => ∃ b, z = .bl b ∧ Q (.bl b) H') C8.E0
def rNotInI (C : Addr) (sp : Sp) : R2 := fun x y H Q => ∃ a dx fs, y = .ref a ∧ H a = some (.ins C dx fs) ∧ sp [.ref a, x] H (fun z H' => ∃ b, z = .bl b ∧ Q (.bl (!b)) H') C8.E0
theorem inst_of (I : Inv X pins σ H s) {a dx : Addr} {fs : List (Str × V)} (ha : H a = some (.ins C dx fs)) : ∃ od, PySem.W.InstAt s.heap a (PySem.W.instObj C dx) C (some od) := by
  obtain ⟨mA, J, _⟩ := ins_get I.hok ha
  obtain ⟨od, J, _⟩ := J.look
  exact ⟨od, J⟩
theorem op_inI (c : Met X.prog X.w X.K X.mg X.base k C "__contains__" sp []) (hr : Room j X.A) (hk : k ≤ j) : OpR X (compareOp .In) (rInI C sp) := by
  intro pins s σ H x y v u Q I rx ry h
  obtain ⟨a, dx, fs, rfl, ha, h⟩ := h
  cases ry
  obtain ⟨od, J⟩ := inst_of I ha
  obtain ⟨m, hF⟩ := I.fr
  obtain ⟨f, h1, h2, h3⟩ := met_call c (A := X.A) ⟨hr.mono hk, rfl⟩ I (us := [.ref a, v]) (vs := [.ref a, x]) (.cons rfl (.cons rx .nil)) h (Q := fun r s' => wpAny (model X.prog X.w) X.A (truthy r) (fun b => EP X pins σ Q (.bool b)) X.xe s') fun v u H' s' I' r ⟨b, e, q⟩ => by
    subst e
    cases r
    exact wpAny_truthy_bool ⟨.bl b, H', I', rfl, q⟩
  exact PySem.W.in_K hF I.ok.mod.kin J h1 h2 h3
theorem op_notInI (c : Met X.prog X.w X.K X.mg X.base k C "__contains__" sp []) (hr : Room j X.A) (hk : k ≤ j) : OpR X (compareOp .NotIn) (rNotInI C sp) := by
  intro pins s σ H x y v u Q I rx ry h
  obtain ⟨a, dx, fs, rfl, ha, h⟩ := h
  cases ry
  obtain ⟨od, J⟩ := inst_of I ha
  obtain ⟨m, hF⟩ := I.fr
  obtain ⟨f, h1, h2, h3⟩ := met_call c (A := X.A) ⟨hr.mono hk, rfl⟩ I (us := [.ref a, v]) (vs := [.ref a, x]) (.cons rfl (.cons rx .nil)) h (Q := fun r s' => wpAny (model X.prog X.w) X.A (truthy r) (fun b => EP X pins σ Q (.bool (!b))) X.xe s') fun v u H' s' I' r ⟨b, e, q⟩ => by
    subst e
    cases r
    exact wpAny_truthy_bool ⟨.bl (!b), H', I', rfl, q⟩
  exact PySem.W.notIn_K hF I.ok.mod.kin J h1 h2 h3
/-- x == y by the own == of x's class -/
def rEqI (C : Addr) (sp : Sp) : R2 := fun x y H Q => ∃ a b dx dy fs gs, x = .ref a ∧ y = .ref b ∧ H a = some (.ins C dx fs) ∧ H b = some (.ins C dy gs) ∧ sp [.ref a, .ref b] H (fun z H' => ∃ b, z = .bl b ∧ Q (.bl b) H') C8.E0
theorem op_eqI (c : Met X.prog X.w X.K X.mg X.base k C "__eq__" sp []) (hr : Room j X.A) (hk : k ≤ j) : OpR X (compareOp .Eq) (rEqI C sp) := by
  intro pins s σ H x y v u Q I rx ry h
  obtain ⟨a, b, dx, dy, fs, gs, rfl, rfl, ha, hb, h⟩ := h
  cases rx
  cases ry
  obtain ⟨od, J⟩ := inst_of I ha
  obtain ⟨od', J'⟩ := inst_of I hb
  obtain ⟨m, hF⟩ := I.fr
  show wpAny (model X.prog X.w) X.A (richCompare .Eq _ _) (EP X pins σ Q) X.xe s
  obtain ⟨f, h1, h2, h3⟩ := met_call c (A := X.A) ⟨hr.mono hk, rfl⟩ I (us := [.ref a, .ref b]) (vs := [.ref a, .ref b]) (.cons rfl (.cons rfl .nil)) h (Q := fun r s' => r ≠ .notImplemented ∧ EP X pins σ Q r s') fun v u H' s' I' r ⟨b, e, q⟩ => by
    subst e
    cases r
    exact ⟨(fun z => nomatch z), .bl b, H', I', rfl, q⟩
  refine PySem.W.cmp_K (op := .Eq) (tb := .ref C) (hr.mono (Nat.zero_le j)).units0 hF I.ok.mod.kin J J'.type (by simp [PySem.W.notFirst]) h1 h2 ?_
  exact wpAny_mono h3 (fun r s' z => by first | exact z | (cases r <;> first | exact z.2 | exact absurd rfl z.1)) fun _ _ z => z
/-- o[i] by the own __getitem__ -/
def rSubI (C : Addr) (sp : Sp) : R2 := fun x y H Q => ∃ a dx fs, x = .ref a ∧ H a = some (.ins C dx fs) ∧ sp [.ref a, y] H Q C8.E0
end
end G
/-! GL11: more wrappers and their steps. Own work. -/
namespace G
open PySem PySem.Spec PyProof.Rows L2 C8

section
variable {X : Cx} {j k : Nat} {C : Addr} {m x : Str} {sp : Sp} {dvs : List V} {a b : Expr} {ta tb : TE} {p pos : Pos}
theorem pe_subI (c : Met X.prog X.w X.K X.mg X.base k C "__getitem__" sp []) (hr : Room j X.A) (hk : k + 1 ≤ j) (hfn : ∀ f, PySem.W.findIn X.K (.ref C) "__getitem__" = some (some (.ref f)) → PySem.W.fnIn X.K f = true) (ha : PE X a ta) (hb : PE X b tb)
    (hsl : ∀ o i, subscripted b true o i = runValue (.builtin "lifetime.subscript" ⟨[o, i], []⟩) := by intro _ _; with_unfolding_all rfl) : PE X (.Subscript a b pos) (tOp (rSubI C sp) ta tb) := by
  refine ⟨fun pins s σ H Q I h => ?_⟩
  refine Subscript_ (binT ha hb I h fun v u s2 x y H2 I2 rx ry q => ?_)
  obtain ⟨a', dx, fs, rfl, hx, q⟩ := q
  cases rx
  obtain ⟨od, J⟩ := inst_of I2 hx
  obtain ⟨m, hF⟩ := I2.fr
  obtain ⟨f, h1, h2, h3⟩ := met_call c (A := X.A.in1) ⟨(hr.mono hk).in1, rfl⟩ I2 (us := [.ref a', u]) (vs := [.ref a', y]) (.cons rfl (.cons ry .nil)) q (Q := EP X pins σ Q) fun v u H' s' I' r q => ⟨v, H', I', r, q⟩
  exact PySem.W.sub_K hF I2.ok.mod.kin J h1 (hfn f h1) h2 h3 (hsl _ _)
def rLenI (C : Addr) (sp : Sp) : List V → Hp → VK → Prop := fun xs H Q => ∃ a dx fs, xs = [.ref a] ∧ H a = some (.ins C dx fs) ∧ sp [.ref a] H (fun z H' => ∃ n : Nat, z = .int n ∧ n ≤ 100000 ∧ Q (.int n) H') C8.E0
theorem lenI (c : Met X.prog X.w X.K X.mg X.base k C "__len__" sp []) (hr : Room j X.A) (hk : k + 1 ≤ j) : CallR X (.builtin "len") (rLenI C sp) := by
  intro pins s σ H xs us Q I r h
  obtain ⟨a, dx, fs, rfl, ha, h⟩ := h
  obtain ⟨u, rfl, rx⟩ := vals1 r
  cases rx
  obtain ⟨od, J⟩ := inst_of I ha
  obtain ⟨m, hF⟩ := I.fr
  obtain ⟨f, h1, h2, h3⟩ := met_call c (A := X.A.in1) ⟨(hr.mono hk).in1, rfl⟩ I (us := [.ref a]) (vs := [.ref a]) (.cons rfl .nil) h (Q := PySem.W.LenBack (EP X pins σ Q)) fun v u H' s' I' r ⟨n, e, hn, q⟩ => by
    subst e
    obtain ⟨t, rfl⟩ := r
    exact ⟨⟨by omega, by omega⟩, .int n, H', I'.tok _, ⟨_, rfl⟩, q⟩
  exact PySem.W.len_K hF I.ok.mod.kin J h1 h2 h3
theorem pe_c0 (c : Cal X.prog X.w X.K X.mg X.base k x sp dvs) (hr : Room j X.A) (hk : k ≤ j) (hg : Gl X x) (hdb : (x == ("__debug__" : Str)) = false := by decide) : PE X (.Call (.Name x p) [] [] pos) (tCall sp dvs C8.E0 tNil) := by
  obtain ⟨f, fd, ps, ds, F, hm, kp, b, d⟩ := c.ex
  exact pe_call0 F (hr.mono hk) hg hm kp b d C8.pass0 hdb
theorem pe_mk0 (c : Mak X.prog X.w X.K X.mg X.base k x C sp dvs) (hr : Room j X.A) (hk : k + 1 ≤ j) (hg : Gl X x) (hdb : (x == ("__debug__" : Str)) = false := by decide) : PE X (.Call (.Name x p) [] [] pos) (tMake C sp dvs C8.E0 tNil) := by
  obtain ⟨f, fd, ps, ds, M, F, hm, b, d⟩ := c.ex
  exact pe_make0 M F (hr.mono hk) hg hm b d C8.pass0 hdb
theorem sortedU (F : PySem.W.Frag) (h : X.K = F := by rfl) : CallR X (.builtin "sorted") (rSorted F) := h ▸ cr_sorted
theorem anyU (F : PySem.W.Frag) (hc : X.calm = true) (h : X.K = F := by rfl) : CallR X (.builtin "any") (L2.rAny F) := h ▸ cr_any hc
theorem idxU (F : PySem.W.Frag) (h : X.K = F := by rfl) : MtR X "list.index" (rIndex F) := h ▸ mt_index
theorem piL (F : PySem.W.Frag) {tg l : Expr} {tl : TE} (hl : PE X l tl) (h : X.K = F := by rfl) : PI X tg l (iList F tl) := h ▸ pi_list hl
theorem piT (F : PySem.W.Frag) {tg l : Expr} {tl : TE} (hl : PE X l tl) (h : X.K = F := by rfl) : PI X tg l (iTup F tl) := h ▸ pi_tup hl
theorem fldU (F : PySem.W.Frag) {e : Expr} {f : Str} {te : TE} (he : PE X e te) (hb : attributeBase e f X.env (eval e X.env) = eval e X.env := by rfl) (h : X.K = F := by rfl) : PE X (.Attribute e f pos) (tFld F te f) := h ▸ pe_fld he hb
theorem slStr : SlR X rSlS := sl_str
theorem slLst (F : PySem.W.Frag) (h : X.K = F := by rfl) : SlR X (rSlL F) := h ▸ sl_list
theorem slTup (F : PySem.W.Frag) (h : X.K = F := by rfl) : SlR X (rSlT F) := h ▸ sl_tup
end

section
variable {L : Lk} {rs rs' : List (Option R)} {st as : List R} {os os' fr : List Own} {K : KK} {K2 : Bool → KK} {D : Ends} {F : PySem.W.Frag} {q q0 q1 : R} {a C : Addr} {j : Nat} {v w : V} {i k : Int} {fl : List (Str × R)} {c : Ct} {te : TE} {tl th : TO} {qs : List R}
/-! ### own operations by contract; their own parts stand first -/
theorem k_inI [r : InR os q1 C fl] (d : c.δ) (ho : os = c.own d ++ fr) (hp : [q1, q] = c.pre d) (hok : c.ok d) (bv : c.ε → Bool) (hb : ∀ e, c.post d e → c.ret d e = rB (bv e)) (h : ∀ e, c.post d e → Gk L rs (rB (bv e) :: st) (c.out d e ++ fr) K) : Gk L rs (q1 :: q :: st) os (opk (rInI C (Fn c)) K) := fun σ vs H s => by
  obtain ⟨B, hs, cu, ho', hr, hst⟩ := s
  cases hst with
  | @cons _ y _ _ h1 h2 =>
    cases h2 with
    | @cons _ x _ t h3 h4 =>
      obtain ⟨x', dx, fs, rfl, hx, hf⟩ := r.get cu ho' h1
      refine ⟨x', dx, fs, rfl, hx, ?_⟩
      have z := k_callF (c := c) (E := C8.E0) (K := fun σ vs H => match vs with | z :: t => ∃ b, z = .bl b ∧ K σ (.bl b :: t) H | [] => False) (rs := rs) (st := st) (as := [q1, q]) d ho hp hok (fun e he σ vs H s => by
        obtain ⟨B, hs, cu, ho, hr, hst⟩ := s
        cases hst with
        | cons g1 g2 =>
          rw [hb e he] at g1
          exact ⟨bv e, g1, h e he σ _ H ⟨B, hs, cu, ho, hr, .cons rfl g2⟩⟩) σ [.ref x', x] t H rfl ⟨B, hs, cu, ho', hr, .cons h1 (.cons h3 h4)⟩
      exact z
theorem k_notInI [r : InR os q1 C fl] (d : c.δ) (ho : os = c.own d ++ fr) (hp : [q1, q] = c.pre d) (hok : c.ok d) (bv : c.ε → Bool) (hb : ∀ e, c.post d e → c.ret d e = rB (bv e)) (h : ∀ e, c.post d e → Gk L rs (rB (!bv e) :: st) (c.out d e ++ fr) K) : Gk L rs (q1 :: q :: st) os (opk (rNotInI C (Fn c)) K) := fun σ vs H s => by
  obtain ⟨B, hs, cu, ho', hr, hst⟩ := s
  cases hst with
  | @cons _ y _ _ h1 h2 =>
    cases h2 with
    | @cons _ x _ t h3 h4 =>
      obtain ⟨x', dx, fs, rfl, hx, hf⟩ := r.get cu ho' h1
      refine ⟨x', dx, fs, rfl, hx, ?_⟩
      have z := k_callF (c := c) (E := C8.E0) (K := fun σ vs H => match vs with | z :: t => ∃ b, z = .bl b ∧ K σ (.bl (!b) :: t) H | [] => False) (rs := rs) (st := st) (as := [q1, q]) d ho hp hok (fun e he σ vs H s => by
        obtain ⟨B, hs, cu, ho, hr, hst⟩ := s
        cases hst with
        | cons g1 g2 =>
          rw [hb e he] at g1
          exact ⟨bv e, g1, h e he σ _ H ⟨B, hs, cu, ho, hr, .cons rfl g2⟩⟩) σ [.ref x', x] t H rfl ⟨B, hs, cu, ho', hr, .cons h1 (.cons h3 h4)⟩
      exact z
theorem k_eqIn {fl' : List (Str × R)} [r : InR os q C fl] [r' : InR os q1 C fl'] (d : c.δ) (ho : os = c.own d ++ fr) (hp : [q, q1] = c.pre d) (hok : c.ok d) (bv : c.ε → Bool) (hb : ∀ e, c.post d e → c.ret d e = rB (bv e)) (h : ∀ e, c.post d e → Gk L rs (rB (bv e) :: st) (c.out d e ++ fr) K) : Gk L rs (q1 :: q :: st) os (opk (rEqI C (Fn c)) K) := fun σ vs H s => by
  obtain ⟨B, hs, cu, ho', hr, hst⟩ := s
  cases hst with
  | @cons _ y _ _ h1 h2 =>
    cases h2 with
    | @cons _ x _ t h3 h4 =>
      obtain ⟨x', dx, fs, rfl, hx, hf⟩ := r'.get cu ho' h1
      obtain ⟨y', dy, gs, rfl, hy, hg⟩ := r.get cu ho' h3
      refine ⟨y', x', dy, dx, gs, fs, rfl, rfl, hy, hx, ?_⟩
      have z := k_callF (c := c) (E := C8.E0) (K := fun σ vs H => match vs with | z :: t => ∃ b, z = .bl b ∧ K σ (.bl b :: t) H | [] => False) (rs := rs) (st := st) (as := [q, q1]) d ho hp hok (fun e he σ vs H s => by
        obtain ⟨B, hs, cu, ho, hr, hst⟩ := s
        cases hst with
        | cons g1 g2 =>
          rw [hb e he] at g1
          exact ⟨bv e, g1, h e he σ _ H ⟨B, hs, cu, ho, hr, .cons rfl g2⟩⟩) σ [.ref y', .ref x'] t H rfl ⟨B, hs, cu, ho', hr, .cons h3 (.cons h1 h4)⟩
      exact z
theorem k_subIn [r : InR os q C fl] (d : c.δ) (ho : os = c.own d ++ fr) (hp : [q, q1] = c.pre d) (hok : c.ok d) (h : ∀ e, c.post d e → Gk L rs (c.ret d e :: st) (c.out d e ++ fr) K) : Gk L rs (q1 :: q :: st) os (opk (rSubI C (Fn c)) K) := fun σ vs H s => by
  obtain ⟨B, hs, cu, ho', hr, hst⟩ := s
  cases hst with
  | @cons _ y _ _ h1 h2 =>
    cases h2 with
    | @cons _ x _ t h3 h4 =>
      obtain ⟨y', dy, gs, rfl, hy, hg⟩ := r.get cu ho' h3
      exact ⟨y', dy, gs, rfl, hy, k_callF (c := c) (E := C8.E0) (K := K) (rs := rs) (st := st) (as := [q, q1]) d ho hp hok h σ [.ref y', y] t H rfl ⟨B, hs, cu, ho', hr, .cons h3 (.cons h1 h4)⟩⟩
theorem k_lenI [r : InR os q C fl] (d : c.δ) (ho : os = c.own d ++ fr) (hp : [q] = c.pre d) (hok : c.ok d) (nv : c.ε → Nat) (hb : ∀ e, c.post d e → c.ret d e = rI (nv e) ∧ nv e ≤ 100000) (h : ∀ e, c.post d e → Gk L rs (rI (nv e) :: st) (c.out d e ++ fr) K) : GA L rs [q] st os (cbk (rLenI C (Fn c)) K) := fun σ us vs H hl s => by
  obtain ⟨B, hs, cu, ho', hr, h1, h2⟩ := S.args hl s
  obtain ⟨x, rfl, hx⟩ := all1 h1
  obtain ⟨x', dx, fs, rfl, hx', hf⟩ := r.get cu ho' hx
  refine ⟨x', dx, fs, rfl, hx', ?_⟩
  have z := k_callF (c := c) (E := C8.E0) (K := fun σ vs H => match vs with | z :: t => ∃ n : Nat, z = .int n ∧ n ≤ 100000 ∧ K σ (.int n :: t) H | [] => False) (rs := rs) (st := st) (as := [q]) d ho hp hok (fun e he σ vs H s => by
    obtain ⟨B, hs, cu, ho, hr, hst⟩ := s
    cases hst with
    | cons g1 g2 =>
      rw [(hb e he).1] at g1
      exact ⟨nv e, g1, (hb e he).2, h e he σ _ H ⟨B, hs, cu, ho, hr, .cons rfl g2⟩⟩) σ [.ref x'] vs H rfl ⟨B, hs, cu, ho', hr, .cons hx h2⟩
  exact z

/-! ### sorted, any -/
theorem all_rI {B : Hp} {ns : List Int} {vs : List V} (h : AllR B (ns.map rI) vs) : vs = ns.map V.int := by
  have e : ns.map rI = (ns.map V.int).map rV := by rw [List.map_map]; rfl
  rw [e] at h
  exact all_rV h
theorem rI_all {B : Hp} : ∀ ns : List Int, AllR B (ns.map rI) (ns.map V.int)
  | [] => .nil
  | n :: ns => .cons rfl (rI_all ns)
theorem k_sorted {ns : List Int} [sl : SeqL F os q0 (ns.map rI)] (hn : ns.length < 64) (h : ∀ ns' : List Int, ns'.Perm ns → ns'.Pairwise (· ≤ ·) → Gk L rs (rLs (ns'.map rI) :: st) os K) : GA L rs [q0] st os (cbk (rSorted F) K) := fun σ us vs H hl s => by
  obtain ⟨B, hs, c, ho, hr, h1, h2⟩ := S.args hl s
  obtain ⟨v, rfl, e⟩ := all1 h1
  obtain ⟨a, ws, rfl, hl, hw⟩ := sl.get c ho e
  rw [all_rI hw] at hl
  refine ⟨a, ns, rfl, hl, hn, fun ns' p hp hs' hn => h ns' hp hs' σ _ _ (newB c ho hr h2 hn ?_)⟩
  exact ⟨p, _, rfl, upd_same, rI_all ns'⟩
theorem all_rB {B : Hp} : ∀ {bs : List Bool} {vs : List V}, AllR B (bs.map rB) vs → vs = bs.map V.bl
  | [], _, .nil => rfl
  | b :: bs, _, .cons h t => by rw [all_rB t, show _ = V.bl b from h]; rfl
theorem k_any {bs : List Bool} [sl : SeqL F os q0 (bs.map rB)] (h : Gk L rs (rB (bs.any id) :: st) os K) : GA L rs [q0] st os (cbk (L2.rAny F) K) := fun σ us vs H hl s => by
  obtain ⟨B, hs, c, ho, hr, h1, h2⟩ := S.args hl s
  obtain ⟨v, rfl, e⟩ := all1 h1
  obtain ⟨a, ws, rfl, hl, hw⟩ := sl.get c ho e
  rw [all_rB hw] at hl
  exact ⟨a, bs, rfl, hl, h σ _ _ ⟨B, hs, c, ho, hr, .cons rfl h2⟩⟩

/-! ### slices -/
def ok' (to : TO) (K : Option Int → KK) : KK := fun σ vs H => to σ H fun o H' => K o σ vs H'
def slk (r : V → Option Int → Option Int → Hp → VK → Prop) (K : KK) (lo hi : Option Int) : KK := fun σ vs H => match vs with
  | x :: t => r x lo hi H fun z H' => K σ (z :: t) H'
  | [] => False
/-- the bounds are left out, or whole numbers -/
def slp (r : V → Option Int → Option Int → Hp → VK → Prop) (tl th : TO) (K : KK) : KK := fun σ vs H => match vs with
  | x :: t => tl σ H fun l H2 => th σ H2 fun u H3 => r x l u H3 fun z H' => K σ (z :: t) H'
  | [] => False
theorem k_sl0 {r : V → Option Int → Option Int → Hp → VK → Prop} (h : Gk L rs st os (evk te (slp r tl th K))) : Gk L rs st os (evk (tSl r te tl th) K) := h
def popI (K : Option Int → KK) : KK := fun σ vs H => match vs with
  | x :: t => ∃ i, x = .int i ∧ K (some i) σ t H
  | [] => False
theorem k_slNN {r : V → Option Int → Option Int → Hp → VK → Prop} (h : Gk L rs (q :: st) os (slk r K none none)) : Gk L rs (q :: st) os (slp r tNoPart tNoPart K) := fun σ vs H s => by
  have z := h σ vs H s
  cases vs <;> exact z
theorem k_slNS {r : V → Option Int → Option Int → Hp → VK → Prop} {tb : TE} (h : Gk L rs (q :: st) os (evk tb (popI fun o => slk r K none o))) : Gk L rs (q :: st) os (slp r tNoPart (tPart tb) K) := fun σ vs H s => by
  have z := h σ vs H s
  cases vs with
  | nil => obtain ⟨B, hs, c, ho, hr, hst⟩ := s; cases hst
  | cons x t => exact z
theorem k_slSN {r : V → Option Int → Option Int → Hp → VK → Prop} {tb : TE} (h : Gk L rs (q :: st) os (evk tb (popI fun o => slk r K o none))) : Gk L rs (q :: st) os (slp r (tPart tb) tNoPart K) := fun σ vs H s => by
  have z := h σ vs H s
  cases vs with
  | nil => obtain ⟨B, hs, c, ho, hr, hst⟩ := s; cases hst
  | cons x t => exact z
theorem k_slSS {r : V → Option Int → Option Int → Hp → VK → Prop} {ta tb : TE} (h : Gk L rs (q :: st) os (evk ta (popI fun lo => evk tb (popI fun hi => slk r K lo hi)))) : Gk L rs (q :: st) os (slp r (tPart ta) (tPart tb) K) := fun σ vs H s => by
  have z := h σ vs H s
  cases vs with
  | nil => obtain ⟨B, hs, c, ho, hr, hst⟩ := s; cases hst
  | cons x t => exact z
theorem k_popI {K : Option Int → KK} {i : Int} (h : Gk L rs st os (K (some i))) : Gk L rs (rI i :: st) os (popI K) := fun σ vs H s => by
  obtain ⟨B, hs, c, ho, hr, hst⟩ := s
  cases hst with
  | cons g1 g2 => exact ⟨i, g1, h σ _ H ⟨B, hs, c, ho, hr, g2⟩⟩
def cutR {α : Type} (xs : List α) (lo hi : Option Int) : List α := (xs.drop (HT.sIx xs.length 0 lo)).take (HT.sIx xs.length xs.length hi - HT.sIx xs.length 0 lo)
theorem pdrop {α β : Type} {G : α → β → Prop} : ∀ {l₁ : List α} {l₂ : List β} (n : Nat), Paired G l₁ l₂ → Paired G (l₁.drop n) (l₂.drop n)
  | _, _, 0, h => by simpa using h
  | _, _, _ + 1, .nil => .nil
  | _, _, n + 1, .cons _ t => pdrop n t
theorem ptake {α β : Type} {G : α → β → Prop} : ∀ {l₁ : List α} {l₂ : List β} (n : Nat), Paired G l₁ l₂ → Paired G (l₁.take n) (l₂.take n)
  | _, _, 0, _ => .nil
  | _, _, _ + 1, .nil => .nil
  | _, _, n + 1, .cons r t => .cons r (ptake n t)
theorem cutR_ok {B : Hp} {ws : List V} {lo hi : Option Int} (h : AllR B qs ws) : AllR B (cutR qs lo hi) (cutV ws lo hi) := by
  unfold cutR cutV
  rw [AllR.len h]
  exact ptake _ (pdrop _ h)
theorem cutR_map {α β : Type} (f : α → β) (xs : List α) (lo hi : Option Int) : cutR (xs.map f) lo hi = (cutR xs lo hi).map f := by
  unfold cutR
  rw [List.length_map, List.map_take, List.map_drop]
theorem k_slL {lo hi : Option Int} [sl : SeqL F os q0 qs] (h : Gk L rs (rLs (cutR qs lo hi) :: st) os K) : Gk L rs (q0 :: st) os (slk (rSlL F) K lo hi) := fun σ vs H s => by
  obtain ⟨B, hs, c, ho, hr, hst⟩ := s
  cases hst with
  | cons g1 g2 =>
    obtain ⟨a, ws, rfl, hl, hw⟩ := sl.get c ho g1
    refine ⟨a, ws, rfl, hl, fun p hp => h σ _ _ (newB c ho hr g2 hp ?_)⟩
    exact ⟨p, _, rfl, upd_same, AllR.mono (Ex.new (c.free hp)) (cutR_ok hw)⟩
theorem k_slLm {α : Type} {t : α → R} {xs : List α} {lo hi : Option Int} [sl : SeqL F os q0 (xs.map t)] (h : Gk L rs (rLs ((cutR xs lo hi).map t) :: st) os K) : Gk L rs (q0 :: st) os (slk (rSlL F) K lo hi) := k_slL (sl := sl) (by rw [cutR_map]; exact h)
theorem k_slT {lo hi : Option Int} [sl : StT F q0 qs] (hp : ¬ (HT.sIx qs.length 0 lo = 0 ∧ HT.sIx qs.length qs.length hi = qs.length)) (h : Gk L rs (rTp (cutR qs lo hi) :: st) os K) : Gk L rs (q0 :: st) os (slk (rSlT F) K lo hi) := fun σ vs H s => by
  obtain ⟨B, hs, c, ho, hr, hst⟩ := s
  cases hst with
  | cons g1 g2 =>
    obtain ⟨a, ws, rfl, hl, hw⟩ := sl.get g1
    refine ⟨a, ws, rfl, c.sqT hl, by rw [← AllR.len hw]; exact hp, fun p hp => h σ _ _ (newB c ho hr g2 hp ?_)⟩
    exact ⟨p, _, rfl, upd_same, AllR.mono (Ex.new (c.free hp)) (cutR_ok hw)⟩
theorem k_slS {lo hi : Option Int} {z : Str} (hz : z.length ≤ 100000) (h : Gk L rs (rS (cutS z lo hi) :: st) os K) : Gk L rs (rS z :: st) os (slk rSlS K lo hi) := fun σ vs H s => by
  obtain ⟨B, hs, c, ho, hr, hst⟩ := s
  cases hst with
  | cons g1 g2 =>
    rw [show _ = V.str z from g1]
    exact ⟨z, rfl, Nat.le_trans hz (by decide), h σ _ _ ⟨B, hs, c, ho, hr, .cons rfl g2⟩⟩
theorem k_lstE (h : ∀ p, Gk L rs (rA p :: st) (oLs p [] :: os) K) : GA L rs [] st os (lstk K) := k_lstO (Nat.zero_le _) h
theorem k_pow (hc : CPow i k) (h : Gk L rs (rI (i ^ k.toNat) :: st) os K) : Gk L rs (rI k :: rI i :: st) os (opk (L2.rI CPow fun i j => .int (i ^ j.toNat)) K) := k_I hc h
theorem map_get {α : Type} {t : α → R} {xs : List α} {i : Nat} {q : R} (h : (xs.map t)[i]? = some q) : ∃ x, xs[i]? = some x ∧ q = t x := by
  rw [List.getElem?_map] at h
  cases e : xs[i]? with
  | none => rw [e] at h; cases h
  | some x => rw [e] at h; exact ⟨x, rfl, (Option.some.inj h).symm⟩
/-! ### name op= e -/
theorem k_aug {i : Nat} {n : Int} {f : Int → Int → Int} [g : GetR rs i (rI n)] (h : Gk L rs st os (evk te (fun σ vs H => match vs with | y :: t => ∃ k, y = .int k ∧ D.nx (σ.set i (some (.int (f n k)))) H | [] => False))) : Gk L rs st os (stk (tAug i te (ipI f)) D) := fun σ vs H s => by
  have z := h σ vs H s
  obtain ⟨B, hs, c, ho, hr, hst⟩ := s
  obtain ⟨b, h1, v, h2, h3⟩ := pget hr g.e
  subst h2
  refine ⟨v, h1, ?_⟩
  rw [show v = V.int n from h3]
  have e : (fun (y : V) (H' : Hp) => ipI f (V.int n) y H' fun z H2 => D.nx (σ.set i (some z)) H2) = fun y H' => ∃ k, y = .int k ∧ D.nx (σ.set i (some (.int (f n k)))) H' := by
    funext y H'
    apply propext
    constructor
    · rintro ⟨i', j', e1, e2, q⟩; cases e1; exact ⟨j', e2, q⟩
    · rintro ⟨k, e, q⟩; exact ⟨n, k, rfl, e, q⟩
  rw [e]
  exact z
theorem k_augk {i : Nat} {n k : Int} {f : Int → Int → Int} [s : SetR rs i (some (rI (f n k))) rs'] (h : Gk L rs' st os (nxk D)) : Gk L rs (rI k :: st) os (fun σ vs H => match vs with | y :: t => ∃ k, y = .int k ∧ D.nx (σ.set i (some (.int (f n k)))) H | [] => False) := fun σ vs H z => by
  obtain ⟨B, hs, c, ho, hr, hst⟩ := z
  cases hst with
  | @cons _ _ _ t g1 g2 =>
    refine ⟨k, g1, h _ t H ⟨B, hs, c, ho, ?_, g2⟩⟩
    rw [← s.e]
    exact pset (F := slotOk B) (a := some (rI (f n k))) (b := some (.int (f n k))) ⟨_, rfl, rfl⟩ i hr
end
end G
/-! GL12: comprehensions with effects, ranges with a step, loops over texts, the order of own parts. Own work. -/
namespace G
open PySem PySem.Spec PyProof.Rows L2

section
variable {L : Lk} {rs rs' rw : List (Option R)} {st as : List R} {os os' fr : List Own} {K : KK} {K2 : Bool → KK} {D : Ends} {F : PySem.W.Frag} {q q0 q1 : R} {g : TG} {tt : TT} {tl te : TE} {tb : TS} {vs : List Nat} {ta : TA}
theorem k_yes (h : Gk L rs st os (K2 true)) : Gk L rs st os (tk tYes K2) := h
theorem k_lcb {Ke Kn : KK} {b : Bool} (h1 : b = true → Gk L rs st os (evk te Ke)) (h2 : b = false → Gk L rs st os Kn) : Gk L rs st os (lcB te Ke Kn b) := fun σ vs H s => by
  cases b with
  | true => show (if true = true then _ else _); rw [if_pos rfl]; exact h1 rfl σ vs H s
  | false => show (if false = true then _ else _); rw [if_neg Bool.false_ne_true]; exact h2 rfl σ vs H s
theorem k_lcLx {α T : Type} {xs : List α} {t : α → R} [sl : StL F q0 (xs.map t)] (Jv : Nat → T → Prop) (accF : T → List R) (osF : T → List Own) (rsI : α → List (Option R)) [w : WipeS rs vs rw] (s0 : T) (h0 : Jv 0 s0) (a0 : accF s0 = []) (o0 : os = osF s0) (hn : xs.length ≤ 10000) (hg : ∀ x, GOk g vs (t x) rw (rsI x))
    (turn : ∀ (i : Nat) (x : α) (s : T) (D : Addr) (Ke Kn : KK) (gx : R), xs[i]? = some x → Jv i s →
      (∀ (q : R) (s' : T) (rs : List (Option R)), Jv (i + 1) s' → accF s' = accF s ++ [q] → Gk L rs (q :: gx :: st) (oLs D (accF s) :: osF s') Ke) → (∀ (s' : T) (rs : List (Option R)), Jv (i + 1) s' → accF s' = accF s → Gk L rs (gx :: st) (oLs D (accF s) :: osF s') Kn) →
      Gk L (rsI x) (gx :: st) (oLs D (accF s) :: osF s) (tk tt (lcB te Ke Kn)))
    (done : ∀ (s : T) (D : Addr), Jv xs.length s → Gk L rs (rA D :: st) (oLs D (accF s) :: osF s) K) : Gk L rs (q0 :: st) os (lcLk F g tt te vs K) := fun σ us H s => by
  obtain ⟨B, hs, c, ho, hr, hst⟩ := s
  cases hst with
  | @cons _ x _ tl h1 h2 =>
    obtain ⟨a, ws, rfl, hl, hw⟩ := sl.get h1
    have elen : (xs.map t).length = ws.length := AllR.len hw
    have src := src_list (L := L) (F := F) (a := a) elen
    rw [List.length_map] at src
    have s1 : S L rs (rLv F a ws (xs.map t) :: st) os σ (.non :: tl) H := ⟨B, hs, c, ho, hr, .cons ⟨rfl, hl, hw⟩ h2⟩
    have gi : ∀ i, i < xs.length → ∃ x, xs[i]? = some x := fun i hi => ⟨_, List.getElem?_eq_getElem hi⟩
    have hY : ∀ (i : Nat) x, xs[i]? = some x → (xs.map t).getD i rAny = t x := fun i x e => by rw [List.getD_eq_getElem?_getD, List.getElem?_map, e]; rfl
    refine ⟨a, rfl, ⟨ws, c.sqL hl⟩, lc_src src Jv accF osF (fun i => match xs[i]? with | some x => rsI x | none => []) s0 h0 a0 o0 hn w.e (fun i hi => ?_) (fun i s D Ke Kn gx hi js hE hN => ?_) (fun s D H' js z => ?_) s1⟩
    · obtain ⟨x, e⟩ := gi i hi
      rw [hY i x e, e]; exact hg x
    · obtain ⟨x, e⟩ := gi i hi
      rw [e]
      exact turn i x s D Ke Kn gx e js hE hN
    · obtain ⟨B, hs, c, ho, hr, hst⟩ := z
      cases hst with
      | cons a b => exact done s D js σ _ H' ⟨B, hs, c, ho, hr, .cons rfl b⟩
theorem k_lcRx {z : Int} {T : Type} (hz : 0 ≤ z ∧ z ≤ 10000) (Jv : Nat → T → Prop) (accF : T → List R) (osF : T → List Own) (rsI : Int → List (Option R)) [w : WipeS rs vs rw] (s0 : T) (h0 : Jv 0 s0) (a0 : accF s0 = []) (o0 : os = osF s0) (hg : ∀ x, GOk g vs (rI x) rw (rsI x))
    (turn : ∀ (i : Nat) (s : T) (D : Addr) (Ke Kn : KK) (gx : R), (i : Int) < z → Jv i s →
      (∀ (q : R) (s' : T) (rs : List (Option R)), Jv (i + 1) s' → accF s' = accF s ++ [q] → Gk L rs (q :: gx :: st) (oLs D (accF s) :: osF s') Ke) → (∀ (s' : T) (rs : List (Option R)), Jv (i + 1) s' → accF s' = accF s → Gk L rs (gx :: st) (oLs D (accF s) :: osF s') Kn) →
      Gk L (rsI i) (gx :: st) (oLs D (accF s) :: osF s) (tk tt (lcB te Ke Kn)))
    (done : ∀ (s : T) (D : Addr), Jv z.toNat s → Gk L rs (rA D :: st) (oLs D (accF s) :: osF s) K) : GA L rs [rI z] st os (lcRk g tt te vs K) := fun σ us vs' H hl s => by
  obtain ⟨B, hs, c, ho, hr, h1, h2⟩ := S.args hl s
  obtain ⟨v, rfl, e⟩ := all1 h1
  have src := src_rng (L := L) (lo := 0) (n := z.toNat)
  have s1 : S L rs (rN :: st) os σ (.non :: vs') H := ⟨B, hs, c, ho, hr, .cons rfl h2⟩
  refine ⟨z, by rw [show v = V.int z from e], by omega, by omega, lc_src src Jv accF osF (fun i => rsI i) s0 h0 a0 o0 (by omega) w.e (fun i hi => by rw [Int.zero_add]; exact hg _) (fun i s D Ke Kn gx hi js hE hN => turn i s D Ke Kn gx (by omega) js hE hN) (fun s D H' js z => ?_) s1⟩
  obtain ⟨B, hs, c, ho, hr, hst⟩ := z
  cases hst with
  | cons a b => exact done s D js σ _ H' ⟨B, hs, c, ho, hr, .cons rfl b⟩
theorem rngL_mem {lo st x : Int} {n : Nat} (h : x ∈ rngL lo st n) : ∃ i : Nat, i < n ∧ x = lo + (i : Int) * st := by
  unfold rngL at h
  obtain ⟨i, hi, rfl⟩ := List.mem_map.mp h
  exact ⟨i, List.mem_range.mp hi, rfl⟩
/-- over range(y, z, -1) -/
theorem k_lcR3 {y z : Int} (hz : -(2 ^ 62) ≤ y ∧ y < 2 ^ 62 ∧ -(2 ^ 62) ≤ z ∧ z < 2 ^ 62 ∧ y - z ≤ 10000) (p : Int → Bool) (r : Int → R) [w : WipeS rs vs rw] (rsI : Int → List (Option R)) (hg : ∀ x, GOk g vs (rI x) rw (rsI x))
    (turn : ∀ x : Int, z < x ∧ x ≤ y → ∀ (gx : R) (D : Addr) (acc : List R) (K2 : Bool → KK), Gk L (rsI x) (gx :: st) (oLs D acc :: os) (K2 (p x)) → Gk L (rsI x) (gx :: st) (oLs D acc :: os) (tk tt K2))
    (elt : ∀ x : Int, z < x ∧ x ≤ y → p x = true → ∀ (gx : R) (D : Addr) (acc : List R) (K' : KK), Gk L (rsI x) (r x :: gx :: st) (oLs D acc :: os) K' → Gk L (rsI x) (gx :: st) (oLs D acc :: os) (evk te K'))
    (done : ∀ D, Gk L rs (rA D :: st) (oLs D (((rngL y (-1) (y - z).toNat).filter p).map r) :: os) K) : GA L rs [rI y, rI z, rI (-1)] st os (lcR3k g tt te vs K) := fun σ us vs' H hl s => by
  obtain ⟨B, hs, c, ho, hr, h1, h2⟩ := S.args hl s
  cases h1 with
  | cons e1 t =>
    cases t with
    | cons e2 t =>
      cases t with
      | cons e3 t =>
        cases t
        have mem : ∀ x, x ∈ rngL y (-1) (y - z).toNat → z < x ∧ x ≤ y := fun x hx => by
          obtain ⟨i, hi, rfl⟩ := rngL_mem hx
          omega
        have src := src_rngC (L := L) (lo := y) (st := -1) (n := (y - z).toNat)
        have hl : (rngL y (-1) (y - z).toNat).length = (y - z).toNat := rngL_len
        rw [← hl] at src
        have s0 : S L rs (rN :: st) os σ (.non :: vs') H := ⟨B, hs, c, ho, hr, .cons rfl h2⟩
        refine ⟨y, z, -1, (y - z).toNat, by rw [show _ = V.int y from e1, show _ = V.int z from e2, show _ = V.int (-1) from e3], RgC.neg hz.1 hz.2.1 hz.2.2.1 hz.2.2.2.1, ?_⟩
        have q := lc_pure (t := rI) (Qd := fun D H => K σ (.ref D :: vs') H) (rs := rs) src (fun i x e => by rw [rngL_get e]) p r rsI (by rw [hl]; omega) w.e hg (fun x hx => turn x (mem x hx)) (fun x hx => elt x (mem x hx)) (fun D H' s => by
            obtain ⟨B, hs, c, ho, hr, hst⟩ := s
            cases hst with
            | cons a b => exact done D σ _ H' ⟨B, hs, c, ho, hr, .cons rfl b⟩) s0
        rw [hl] at q
        exact q

/-! ### a sign in a text -/
theorem k_inCh {c : Nat} {z : Str} (h : Gk L rs (rB (decide (c ∈ z.cps.toList)) :: st) os K) : Gk L rs (rS z :: rS ⟨#[c]⟩ :: st) os (opk (rInU F) K) := k_opV (fun H Q w => .inr (.inl ⟨c, z, rfl, rfl, w⟩)) h
theorem k_notInCh {c : Nat} {z : Str} (h : Gk L rs (rB (!decide (c ∈ z.cps.toList)) :: st) os K) : Gk L rs (rS z :: rS ⟨#[c]⟩ :: st) os (opk (rNotInU F) K) := k_opV (fun H Q w => .inr (.inl ⟨c, z, rfl, rfl, w⟩)) h

/-! ### for, over what is walked -/
def forJ (J : It) (g : TG) (tb : TS) (D : Ends) (σ : L2.St) (H : Hp) : Prop := ∃ W : Nat → Nat → L2.St → Hp → Prop, (∃ m, W 0 m σ H) ∧ ∀ i m σ H, W i m σ H →
  (J.stop i H ∧ D.nx σ H) ∨ (J.go i H ∧ ∃ N : L2.St → Hp → Prop, (∀ σ' H', N σ' H' → ∃ m', m' < m ∧ W (i + 1) m' σ' H') ∧ ∀ x H', J.yld i H x H' → g x σ H' fun σ2 H2 => tb { D with nx := N, ct := N, bk := D.nx } σ2 H2)
theorem for_src {J : It} {n : Nat} {Y : Nat → R} {gh : R} (src : Src L J n Y gh) (hgh : ∀ B v, gh.p B v → gh.p B .non) {T : Type} (Jv : Nat → T → Prop) (rsF : T → List (Option R)) (osF : T → List Own) (s0 : T) (h0 : Jv 0 s0) (l0 : Le rs (rsF s0)) (o0 : os = osF s0)
    (turn : ∀ (i : Nat) (s : T) (N : L2.St → Hp → Prop), i < n → Jv i s → (∀ s', Jv (i + 1) s' → Gk L (rsF s') (gh :: st) (osF s') (fun σ _ H => N σ H)) → Gk L (rsF s) (Y i :: gh :: st) (osF s) (tgk g (Dn tb (Dl N D))))
    (done : ∀ s, Jv n s → Gk L (rsF s) st (osF s) (nxk D)) {σ : L2.St} {tl : List V} {H : Hp} (s : S L rs (gh :: st) os σ tl H) : forJ J g tb D σ H := by
  refine ⟨fun i m σ H => m = n - i ∧ i ≤ n ∧ ∃ s tl, Jv i s ∧ S L (rsF s) (gh :: st) (osF s) σ tl H, ⟨_, rfl, Nat.zero_le _, s0, tl, h0, ?_⟩, ?_⟩
  · obtain ⟨B, hs, c, ho, hr, hst⟩ := s
    exact ⟨B, hs, c, by rw [← o0]; exact ho, l0.ok hr, hst⟩
  rintro i m σ H ⟨rfl, hi, s, tl, jv, B, hs, c, ho, hr, hst⟩
  have hg : gh.p B .non := by cases hst with | cons a b => exact hgh _ _ a
  by_cases z : i < n
  · refine .inr ⟨src.go z c hg, fun σ H => ∃ s tl, Jv (i + 1) s ∧ S L (rsF s) (gh :: st) (osF s) σ tl H, fun σ' H' h => ⟨n - (i + 1), by omega, rfl, z, h⟩, fun x H' y => ?_⟩
    obtain ⟨B', ex, c', hY⟩ := src.yld z c hg y
    have hst' := pmap hst fun (q : R) _ r => q.mono ex r
    exact turn i s (fun σ H => ∃ s tl, Jv (i + 1) s ∧ S L (rsF s) (gh :: st) (osF s) σ tl H) z jv (fun s' js' σ vs H w => ⟨s', vs, js', w⟩) σ (x :: tl) H' ⟨B', hs, c', pmap ho fun O _ q => O.mono ex q, pmap hr fun _ _ q => q.mono ex, .cons hY hst'⟩
  · have e : i = n := by omega
    subst e
    refine .inl ⟨src.stop c hg, ?_⟩
    cases hst with
    | cons a b => exact done s jv σ _ H ⟨B, hs, c, ho, hr, b⟩
theorem src_str {z : Str} : Src L (Its z) z.cps.size (fun i => rS ⟨#[z.cps.getD i 0]⟩) rN where
  go := fun hi _ _ => hi
  stop := fun _ _ => Nat.le_refl _
  yld := fun {i B hs H x H'} hi c g y => by
    obtain ⟨rfl, c', h1, rfl⟩ := y
    refine ⟨B, Ex.refl B, c, ?_⟩
    show V.str _ = V.str _
    rw [Array.getD_eq_getD_getElem?, h1]; rfl
def forSk (g : TG) (tb : TS) (D : Ends) : KK := fun σ vs H => match vs with
  | v :: _ => ∃ x, v = .str x ∧ forJ (Its x) g tb D σ H
  | [] => False
theorem k_forS (h : Gk L rs st os (evk te (forSk g tb D))) : Gk L rs st os (stk (tFor (iStr te) g tb) D) := h
theorem k_forSn {z : Str} {T : Type} (Jv : Nat → T → Prop) (rsF : T → List (Option R)) (osF : T → List Own) (s0 : T) (h0 : Jv 0 s0) (l0 : Le rs (rsF s0)) (o0 : os = osF s0)
    (turn : ∀ (i : Nat) (s : T) (N : L2.St → Hp → Prop), i < z.cps.size → Jv i s → (∀ s', Jv (i + 1) s' → Gk L (rsF s') (rN :: st) (osF s') (fun σ _ H => N σ H)) → Gk L (rsF s) (rS ⟨#[z.cps.getD i 0]⟩ :: rN :: st) (osF s) (tgk g (Dn tb (Dl N D))))
    (done : ∀ s, Jv z.cps.size s → Gk L (rsF s) st (osF s) (nxk D)) : Gk L rs (rS z :: st) os (forSk g tb D) := fun σ vs H s => by
  obtain ⟨B, hs, c, ho, hr, hst⟩ := s
  cases hst with
  | @cons _ _ _ tl h1 h2 => exact ⟨z, h1, for_src src_str (fun _ _ _ => rfl) Jv rsF osF s0 h0 l0 o0 turn done (tl := .non :: tl) ⟨B, hs, c, ho, hr, .cons rfl h2⟩⟩

/-! ### the order of the own parts -/
theorem Apart.pw {hs : List Hp} : Apart hs ↔ hs.Pairwise Dj := by
  induction hs with
  | nil => exact ⟨fun _ => .nil, fun _ i j h g _ hi => by simp at hi⟩
  | cons h hs ih => exact ⟨fun a => .cons a.head (ih.mp a.tail), fun p => by
      cases p with
      | cons p1 p2 => exact Apart.cons (ih.mpr p2) p1⟩
theorem Cur.permL {L : Lk} {B H : Hp} {hs hs' : List Hp} (c : Cur L B hs H) (p : hs'.Perm hs) : Cur L B hs' H :=
  ⟨c.base, c.lk, fun h hh => c.own h (p.subset hh), fun h hh => c.dB h (p.subset hh), Apart.pw.mpr ((p.pairwise_iff (fun h => Dj.symm h)).mpr (Apart.pw.mp c.dh))⟩
theorem perm_paired {α β : Type} {G : α → β → Prop} {l m : List α} (p : l.Perm m) : ∀ {k : List β}, Paired G l k → ∃ k', k'.Perm k ∧ Paired G m k' := by
  induction p with
  | nil => exact fun h => ⟨_, .refl _, h⟩
  | cons x _ ih =>
      intro k h
      cases h with
      | cons a b => obtain ⟨k, h1, h2⟩ := ih b; exact ⟨_, h1.cons _, .cons a h2⟩
  | swap x y l =>
      intro k h
      cases h with
      | cons a b =>
        cases b with
        | cons b c => exact ⟨_, .swap _ _ _, .cons b (.cons a c)⟩
  | trans _ _ ih1 ih2 =>
      intro k h
      obtain ⟨k, h1, h2⟩ := ih1 h
      obtain ⟨k', h3, h4⟩ := ih2 h2
      exact ⟨k', h3.trans h1, h4⟩
theorem k_perm (p : os.Perm os') (h : Gk L rs st os' K) : Gk L rs st os K := fun σ vs H s => by
  obtain ⟨B, hs, c, ho, hr, hst⟩ := s
  obtain ⟨k, h1, h2⟩ := perm_paired p ho
  exact h σ vs H ⟨B, k, c.permL h1, h2, hr, hst⟩
theorem ga_perm {KA : List V → KK} (p : os.Perm os') (h : GA L rs as st os' KA) : GA L rs as st os KA := fun σ us vs H hl s => by
  obtain ⟨B, hs, c, ho, hr, hst⟩ := s
  obtain ⟨k, h1, h2⟩ := perm_paired p ho
  exact h σ us vs H hl ⟨B, k, c.permL h1, h2, hr, hst⟩
end
end G
/-! GL13: membership in rows of texts and numbers. Own work. -/
namespace G
open PySem PySem.Spec PyProof.Rows L2
theorem map_rS (l : List Str) : l.map rS = (l.map V.str).map rV := by rw [List.map_map]; rfl
theorem map_rI (l : List Int) : l.map rI = (l.map V.int).map rV := by rw [List.map_map]; rfl
theorem inV_str {x : Str} : ∀ {l : List Str}, inV (V.str x) (l.map V.str) = decide (x ∈ l)
  | [] => rfl
  | y :: l => by
    show (eqV (V.str y) (V.str x) || inV (V.str x) (l.map V.str)) = _
    rw [inV_str (l := l)]
    by_cases h : y = x
    · subst h
      have : eqV (V.str y) (V.str y) = true := by simp [eqV]
      rw [this]; simp
    · have : eqV (V.str y) (V.str x) = false := by simp [eqV, h]
      rw [this]
      have h' : ¬ x = y := fun e => h e.symm
      simp [h']
theorem inV_int {x : Int} : ∀ {l : List Int}, inV (V.int x) (l.map V.int) = decide (x ∈ l)
  | [] => rfl
  | y :: l => by
    show (eqV (V.int y) (V.int x) || inV (V.int x) (l.map V.int)) = _
    rw [inV_int (l := l)]
    by_cases h : y = x
    · subst h
      have : eqV (V.int y) (V.int y) = true := by simp [eqV]
      rw [this]; simp
    · have : eqV (V.int y) (V.int x) = false := by simp [eqV, h]
      rw [this]
      have h' : ¬ x = y := fun e => h e.symm
      simp [h']
theorem flat_str (l : List Str) : (l.map V.str).all flatV = true := by simp [flatV]
theorem flat_int (l : List Int) : (l.map V.int).all flatV = true := by simp [flatV]
section
variable {L : Lk} {rs : List (Option R)} {st : List R} {os : List Own} {K : KK} {F : PySem.W.Frag} {q0 : R}
theorem k_inLS {x : Str} {l : List Str} [sl : SeqL F os q0 (l.map rS)] (h : Gk L rs (rB (decide (x ∈ l)) :: st) os K) : Gk L rs (q0 :: rS x :: st) os (opk (rInU F) K) := by
  rw [map_rS] at sl
  exact k_inL (sl := sl) rfl (flat_str l) (by rw [inV_str]; exact h)
theorem k_notInLS {x : Str} {l : List Str} [sl : SeqL F os q0 (l.map rS)] (h : Gk L rs (rB (!decide (x ∈ l)) :: st) os K) : Gk L rs (q0 :: rS x :: st) os (opk (rNotInU F) K) := by
  rw [map_rS] at sl
  exact k_notInL (sl := sl) rfl (flat_str l) (by rw [inV_str]; exact h)
theorem k_inLI {x : Int} {l : List Int} [sl : SeqL F os q0 (l.map rI)] (h : Gk L rs (rB (decide (x ∈ l)) :: st) os K) : Gk L rs (q0 :: rI x :: st) os (opk (rInU F) K) := by
  rw [map_rI] at sl
  exact k_inL (sl := sl) rfl (flat_int l) (by rw [inV_int]; exact h)
theorem k_notInLI {x : Int} {l : List Int} [sl : SeqL F os q0 (l.map rI)] (h : Gk L rs (rB (!decide (x ∈ l)) :: st) os K) : Gk L rs (q0 :: rI x :: st) os (opk (rNotInU F) K) := by
  rw [map_rI] at sl
  exact k_notInL (sl := sl) rfl (flat_int l) (by rw [inV_int]; exact h)
theorem k_inTS {x : Str} {l : List Str} [sl : StT F q0 (l.map rS)] (h : Gk L rs (rB (decide (x ∈ l)) :: st) os K) : Gk L rs (q0 :: rS x :: st) os (opk (rInU F) K) := by
  rw [map_rS] at sl
  exact k_inT (sl := sl) rfl (flat_str l) (by rw [inV_str]; exact h)
theorem k_notInTS {x : Str} {l : List Str} [sl : StT F q0 (l.map rS)] (h : Gk L rs (rB (!decide (x ∈ l)) :: st) os K) : Gk L rs (q0 :: rS x :: st) os (opk (rNotInU F) K) := by
  rw [map_rS] at sl
  exact k_notInT (sl := sl) rfl (flat_str l) (by rw [inV_str]; exact h)
theorem k_inTI {x : Int} {l : List Int} [sl : StT F q0 (l.map rI)] (h : Gk L rs (rB (decide (x ∈ l)) :: st) os K) : Gk L rs (q0 :: rI x :: st) os (opk (rInU F) K) := by
  rw [map_rI] at sl
  exact k_inT (sl := sl) rfl (flat_int l) (by rw [inV_int]; exact h)
theorem k_notInTI {x : Int} {l : List Int} [sl : StT F q0 (l.map rI)] (h : Gk L rs (rB (!decide (x ∈ l)) :: st) os K) : Gk L rs (q0 :: rI x :: st) os (opk (rNotInU F) K) := by
  rw [map_rI] at sl
  exact k_notInT (sl := sl) rfl (flat_int l) (by rw [inV_int]; exact h)
end
theorem k_cut {L : Lk} {rs : List (Option R)} {st : List R} {os : List Own} {t u : TS} {D : Ends} {b : Bool} {T : Type} (J : T → Prop) (rsF : T → List (Option R)) (osF : T → List Own) (cont : ∀ s, J s → Gk L (rsF s) st (osF s) (nxk D))
    (h : (∀ s, J s → Gk L (rsF s) st (osF s) (nxk D)) → Gk L rs st os (ifk t u D b)) : Gk L rs st os (ifk t u D b) := h cont
theorem k_cutT {L : Lk} {rs : List (Option R)} {st : List R} {os : List Own} {c : TT} {t u : TS} {D : Ends} {T : Type} (J : T → Prop) (rsF : T → List (Option R)) (osF : T → List Own) (cont : ∀ s, J s → Gk L (rsF s) st (osF s) (nxk D))
    (h : (∀ s, J s → Gk L (rsF s) st (osF s) (nxk D)) → Gk L rs st os (stk (tIfS c t u) D)) : Gk L rs st os (stk (tIfS c t u) D) := h cont
theorem cut_to {α : Type} {l : List α} {k : Int} (h : 0 ≤ k) : cutR l none (some k) = l.take k.toNat := by
  unfold cutR
  show ((l.drop 0).take ((if k < 0 then _ else min k.toNat l.length) - 0)) = _
  rw [if_neg (by omega), List.drop_zero, Nat.sub_zero]
  by_cases z : k.toNat ≤ l.length
  · rw [Nat.min_eq_left z]
  · rw [Nat.min_eq_right (by omega), List.take_length, List.take_of_length_le (by omega)]
theorem snoc_all {α : Type} {P : Nat → α → Prop} {l : List α} {x : α} {n : Nat} (h : ∀ (k : Nat) r, l[k]? = some r → P k r) (hn : l.length = n) (hx : P n x) : ∀ (k : Nat) r, (l ++ [x])[k]? = some r → P k r := fun k r e => by
  rw [List.getElem?_append] at e
  split at e
  · exact h k r e
  · rename_i z
    cases q : k - l.length with
    | zero => rw [q] at e; cases e; rw [show k = n by omega]; exact hx
    | succ i => rw [q] at e; simp at e
theorem gok_nm {i : Nat} {vs : List Nat} {q : R} {rs rs' : List (Option R)} (h : rs.set i (some q) = rs') (m : i ∈ vs) : GOk (gName i) vs q rs rs' := @gok_name i vs q rs rs' m ⟨h⟩
theorem gok_nms {F : PySem.W.Frag} {is vs : List Nat} {n : Nat} {q : R} {qs : List R} {rs rs' : List (Option R)} [sl : StT F q qs] (h : setAll rs is qs = rs') (m : ∀ i ∈ is, i ∈ vs) (hn : qs.length = n) (hi : is.length = n) : GOk (gTup F n (gNames is)) vs q rs rs' := @gok_names F is vs n q qs rs rs' sl m hn hi ⟨h⟩
end G
/-! GL14: own parts that stay from now on, what stands on the stack; words about dicts. Own work. -/
namespace G
open PySem PySem.Spec PyProof.Rows L2
section
variable {L : Lk} {rs : List (Option R)} {st : List R} {os os' : List Own} {K : KK} {a : Addr} {j : Nat}
theorem k_frzG {O : Own} (q : R) (hO : ∀ (B h : Hp), O.p B h → ∃ o, h = sgl a o ∧ ∀ B', Ex B B' → B' a = some o → q.p B' (.ref a)) (j : Nat) (e : os[j]? = some O) (k : Gk L rs (q :: st) (os.eraseIdx j) K) : Gk L rs (rA a :: st) os K := fun σ vs H s => by
  obtain ⟨B, hs, c, ho, hr, hst⟩ := s
  obtain ⟨g, hg, hw⟩ := pget ho e
  obtain ⟨o, rfl, hq⟩ := hO B g hw
  have hB : B a = none := by
    rcases c.dB _ (c.mem hg) a with z | z
    · exact z
    · rw [sgl_same] at z; cases z
  have ex : Ex B (upd B a o) := Ex.new hB
  cases hst with
  | cons h1 h2 =>
    rw [show _ = V.ref a from h1]
    exact k σ _ H ⟨_, _, c.frz hg, pmap (perase j ho) (fun O _ q => O.mono ex q), pmap hr (fun _ _ q => q.mono ex), .cons (hq _ ex upd_same) (pmap h2 fun q _ z => q.mono ex z)⟩
theorem k_frzKT {kqs : List (Key × R)} [h : AtK os a kqs j] [e : EraO os j os'] (k : Gk L rs (rDk kqs :: st) os' K) : Gk L rs (rA a :: st) os K :=
  k_frzG (O := oDk a kqs) (rDk kqs) (fun B h ⟨ws, e, hw⟩ => ⟨_, e, fun B' ex hB => ⟨a, ws, rfl, hB, hw.mono ex⟩⟩) j h.e (e.e.symm ▸ k)
theorem k_frzDT {kqs : List (List Key × R)} [h : AtT os a kqs j] [e : EraO os j os'] (k : Gk L rs (rDt kqs :: st) os' K) : Gk L rs (rA a :: st) os K :=
  k_frzG (O := oDt a kqs) (rDt kqs) (fun B h ⟨ws, e, hw⟩ => ⟨_, e, fun B' ex hB => ⟨a, ws, rfl, hB, hw.mono ex⟩⟩) j h.e (e.e.symm ▸ k)
end
section
variable {κ : Type} [DecidableEq κ]
theorem putKR_new {kqs : List (κ × R)} {k : κ} {q : R} (h : ∀ p ∈ kqs, p.1 ≠ k) : putKR kqs k q = kqs ++ [(k, q)] := by
  unfold putKR
  rw [if_neg]
  intro z
  obtain ⟨p, hp, e⟩ := List.any_eq_true.mp z
  exact h p hp (of_decide_eq_true e)
theorem valR_none {kqs : List (κ × R)} {k : κ} (h : ∀ p ∈ kqs, p.1 ≠ k) : valR kqs k = none := by
  unfold valR
  rw [List.find?_eq_none.mpr fun p hp => by simpa using h p hp]; rfl
/-- a dict that is written from a list with different keys -/
theorem valR_map {α : Type} {f : α → κ} {r : α → R} : ∀ {l : List α} {x : α}, x ∈ l → (l.map f).Nodup → valR (l.map fun y => (f y, r y)) (f x) = some (r x)
  | y :: l, x, hx, hn => by
    have hn := List.nodup_cons.mp hn
    rcases List.mem_cons.mp hx with e | hx
    · subst e
      simp [valR]
    · have hne : f y ≠ f x := fun e => hn.1 (e ▸ List.mem_map.mpr ⟨x, hx, rfl⟩)
      have := valR_map (r := r) hx hn.2
      simp only [valR, List.map_cons, List.find?_cons] at this ⊢
      rw [decide_eq_false hne]
      exact this
end
theorem eraseIdx_map {α β : Type} (f : α → β) : ∀ (l : List α) (n : Nat), (l.map f).eraseIdx n = (l.eraseIdx n).map f
  | [], _ => rfl
  | _ :: _, 0 => rfl
  | x :: l, n + 1 => by rw [List.map_cons, List.eraseIdx_cons_succ, List.eraseIdx_cons_succ, List.map_cons, eraseIdx_map f l n]
theorem k_popM {L : Lk} {rs : List (Option R)} {st : List R} {os os' : List Own} {K : KK} {a : Addr} {j : Nat} {α : Type} [Inhabited α] {t : α → R} {xs : List α} [hj : AtL os a (xs.map t) j] {k : Int} (hk : 0 ≤ k ∧ k < xs.length ∧ k < 100000) [ho' : SetO os j (oLs a ((xs.eraseIdx k.toNat).map t)) os'] (h : Gk L rs (t (xs.getD k.toNat default) :: st) os' K) : GA L rs [rI k] (rA a :: st) os (bm2 rPopAt K) := by
  have hl : k.toNat < xs.length := by omega
  refine k_popAt (hj := hj) (q := t (xs.getD k.toNat default)) (ho' := ⟨by rw [eraseIdx_map]; exact ho'.e⟩) (by rw [List.length_map]; exact hk) rfl ?_ h
  rw [List.getElem?_map, List.getD_eq_getElem?_getD, List.getElem?_eq_getElem hl]; rfl
theorem erase_perm {α : Type} : ∀ {l : List α} {n : Nat} (h : n < l.length), (l[n] :: l.eraseIdx n).Perm l
  | x :: l, 0, _ => .refl _
  | x :: l, n + 1, h => by
    rw [List.eraseIdx_cons_succ, List.getElem_cons_succ]
    exact (List.Perm.swap _ _ _).trans ((erase_perm (l := l) (n := n) (by simpa using h)).cons x)
theorem perm_erase {α : Type} [Inhabited α] {c l : List α} {n : Nat} (h : n < l.length) : ((c ++ [l.getD n default]) ++ l.eraseIdx n).Perm (c ++ l) := by
  rw [List.append_assoc]
  refine List.Perm.append_left _ ?_
  rw [List.getD_eq_getElem?_getD, List.getElem?_eq_getElem h]
  exact erase_perm h
end G
/-! GL15: comprehensions over own lists. Own work. -/
namespace G
open PySem PySem.Spec PyProof.Rows L2
structure SrcO (L : Lk) (J : It) (n : Nat) (Y : Nat → R) (Ok : List Own → Prop) : Prop where
  go : ∀ {i : Nat} {B : Hp} {hs : List Hp} {H : Hp} {os : List Own}, i < n → Cur L B hs H → Paired (fun O h => Own.p O B h) os hs → Ok os → J.go i H
  stop : ∀ {B : Hp} {hs : List Hp} {H : Hp} {os : List Own}, Cur L B hs H → Paired (fun O h => Own.p O B h) os hs → Ok os → J.stop n H
  yld : ∀ {i : Nat} {B : Hp} {hs : List Hp} {H : Hp} {x : V} {H' : Hp} {os : List Own}, i < n → Cur L B hs H → Paired (fun O h => Own.p O B h) os hs → Ok os → J.yld i H x H' → ∃ B', Ex B B' ∧ Cur L B' hs H' ∧ (Y i).p B' x
theorem src_own {L : Lk} {F : PySem.W.Frag} {a : Addr} {qs : List R} : SrcO L (Itl F a) qs.length (fun i => qs.getD i rAny) (fun (os : List Own) => ∃ j : Nat, os[j]? = some (oLs a qs)) where
  go := fun {i B hs H os} hi c ho ⟨j, e⟩ => by
    obtain ⟨g, hg, ws, rfl, hw⟩ := pget ho e
    have hH := c.own _ (c.mem hg) a _ sgl_same
    have el := AllR.len hw
    exact ⟨ws, ws[i]'(by omega), .of hH, by simp⟩
  stop := fun {B hs H os} c ho ⟨j, e⟩ => by
    obtain ⟨g, hg, ws, rfl, hw⟩ := pget ho e
    have hH := c.own _ (c.mem hg) a _ sgl_same
    have el := AllR.len hw
    exact ⟨ws, .of hH, by omega⟩
  yld := fun {i B hs H x H' os} hi c ho ⟨j, e⟩ y => by
    obtain ⟨rfl, y⟩ := y
    obtain ⟨g, hg, ws, rfl, hw⟩ := pget ho e
    have hH := c.own _ (c.mem hg) a _ sgl_same
    have q := y ws (.of hH)
    obtain ⟨v, hv, hq⟩ := pget hw (List.getElem?_eq_getElem hi)
    rw [q] at hv; cases hv
    exact ⟨B, Ex.refl B, c, by rw [List.getD_eq_getElem?_getD, List.getElem?_eq_getElem hi]; exact hq⟩
theorem lc_srcO {L : Lk} {J : It} {n : Nat} {Y : Nat → R} {gh : R} {Ok : List Own → Prop} (src : SrcO L J n Y Ok) {g : TG} {tt : TT} {te : TE} {vs : List Nat} {Qd : Addr → Hp → Prop} {rs rw : List (Option R)} {st : List R} {os : List Own}
    {T : Type} (Jv : Nat → T → Prop) (accF : T → List R) (osF : T → List Own) (rsI : Nat → List (Option R)) (s0 : T) (hOk : ∀ (s : T) (D : Addr), Ok (oLs D (accF s) :: osF s)) (h0 : Jv 0 s0) (a0 : accF s0 = []) (o0 : os = osF s0) (hn : n ≤ 10000) (hwp : wipeS rs vs = rw) (hg : ∀ i, i < n → GOk g vs (Y i) rw (rsI i))
    (turn : ∀ (i : Nat) (s : T) (D : Addr) (Ke Kn : KK) (gx : R), i < n → Jv i s →
      (∀ (q : R) (s' : T) (rs : List (Option R)), Jv (i + 1) s' → accF s' = accF s ++ [q] → Gk L rs (q :: gx :: st) (oLs D (accF s) :: osF s') Ke) → (∀ (s' : T) (rs : List (Option R)), Jv (i + 1) s' → accF s' = accF s → Gk L rs (gx :: st) (oLs D (accF s) :: osF s') Kn) →
      Gk L (rsI i) (gx :: st) (oLs D (accF s) :: osF s) (tk tt (lcB te Ke Kn)))
    {σ : L2.St} {tl : List V} {H : Hp} (done : ∀ (s : T) (D : Addr) (H' : Hp), Jv n s → S L rs (gh :: st) (oLs D (accF s) :: osF s) σ (.non :: tl) H' → Qd D H')
    (s : S L rs (gh :: st) os σ (.non :: tl) H) : lcK J g tt te vs Qd σ H := by
  intro D hD
  let W : Nat → Hp → Prop := fun i H => ∃ (s : T) (B : Hp) (hs : List Hp), Jv i s ∧ (accF s).length ≤ i ∧ Cur L B hs H ∧ Paired (fun O h => Own.p O B h) (oLs D (accF s) :: osF s) hs ∧ Paired (slotOk B) rs σ ∧ Paired (fun r v => R.p r B v) (gh :: st) (.non :: tl)
  refine ⟨fun i m H => m = n - i ∧ i ≤ n ∧ W i H, ?_, ?_⟩
  · obtain ⟨B, hs, c, ho, hr, hst⟩ := s
    exact ⟨_, rfl, Nat.zero_le _, s0, B, _, h0, by rw [a0]; exact Nat.le_refl _, c.newO hD, .cons ⟨[], rfl, by rw [a0]; exact .nil⟩ (by rw [← o0]; exact ho), hr, hst⟩
  rintro i m H ⟨rfl, hi, s, B, hs, jv, hl, c, ho, hr, hst⟩
  by_cases z : i < n
  · refine .inr ⟨src.go z c ho (hOk s D), W (i + 1), fun H' h => ⟨n - (i + 1), by omega, rfl, z, h⟩, fun x H' y => ?_⟩
    obtain ⟨B', ex, c', hY⟩ := src.yld z c ho (hOk s D) y
    have ho' : Paired (fun O h => Own.p O B' h) (oLs D (accF s) :: osF s) hs := pmap ho fun O _ q => O.mono ex q
    have hr' : Paired (slotOk B') rs σ := pmap hr fun _ _ q => q.mono ex
    have hst' : Paired (fun r v => R.p r B' v) (gh :: st) (.non :: tl) := pmap hst fun q _ r => q.mono ex r
    refine (hg i z).run c' hY (hwp ▸ wipe_ok hr' vs) fun σ2 hw2 hr2 => ⟨hw2, ?_⟩
    -- the original slots and the stack are not forgotten: kept as a word about a ghost
    let gx : R := ⟨fun B v => v = .non ∧ Paired (fun r v => R.p r B v) (gh :: st) (.non :: tl) ∧ Paired (slotOk B) rs σ, fun e ⟨h0, h1, h2⟩ => ⟨h0, pmap h1 fun q _ r => q.mono e r, pmap h2 fun _ _ q => q.mono e⟩⟩
    refine turn i s D (lcE D (W (i + 1))) (fun _ _ H' => W (i + 1) H') gx z jv
      (fun q s' rs' js' ea σ' us' H' z => ?_) (fun s' rs' js' ea σ' us' H' z => ?_) σ2 (.non :: tl) H' ⟨B', hs, c', ho', hr2, by
        cases hst' with
        | cons a b => exact .cons ⟨rfl, .cons a b, hr'⟩ b⟩
    · obtain ⟨B2, hs2, c2, ho2, hr2, hst2⟩ := z
      cases hst2 with
      | cons g1 g2 =>
        cases g2 with
        | cons g3 g4 =>
          cases ho2 with
          | @cons _ h0 _ ht k1 k2 =>
            obtain ⟨ws, rfl, hw⟩ := k1
            have hH := c2.own _ List.mem_cons_self D _ sgl_same
            have hlw : ws.length ≤ i := by rw [← AllR.len hw]; exact hl
            refine ⟨ws, hH, Nat.lt_of_le_of_lt (Nat.le_trans hlw (by omega : i ≤ 10000)) (by decide), s', B2, _, js', ?_, c2.mut (j := 0) rfl, .cons ⟨_, rfl, by rw [ea]; exact papp hw (.cons g1 .nil)⟩ k2, g3.2.2, g3.2.1⟩
            rw [ea, List.length_append, List.length_singleton]; omega
    · obtain ⟨B2, hs2, c2, ho2, hr2, hst2⟩ := z
      cases hst2 with
      | cons g3 g4 => exact ⟨s', B2, hs2, js', by rw [ea]; omega, c2, by rw [ea]; exact ho2, g3.2.2, g3.2.1⟩
  · have e : i = n := by omega
    subst e
    exact .inl ⟨src.stop c ho (hOk s D), done s D H jv ⟨B, hs, c, ho, hr, hst⟩⟩

theorem lc_pureO {L : Lk} {J : It} {α : Type} {xs : List α} {t : α → R} {Y : Nat → R} {gh : R} {Ok : List Own → Prop} (src : SrcO L J xs.length Y Ok) (hY : ∀ (i : Nat) x, xs[i]? = some x → Y i = t x) {g : TG} {tt : TT} {te : TE} {vs : List Nat} {Qd : Addr → Hp → Prop} {rs rw : List (Option R)} {st : List R} {os : List Own}
    (p : α → Bool) (r : α → R) (rsI : α → List (Option R)) (hOk : ∀ (l : List R) (D : Addr), Ok (oLs D l :: os)) (hn : xs.length ≤ 10000) (hwp : wipeS rs vs = rw) (hg : ∀ x, GOk g vs (t x) rw (rsI x))
    (turn : ∀ x, x ∈ xs → ∀ (gx : R) (D : Addr) (acc : List R) (K2 : Bool → KK), Gk L (rsI x) (gx :: st) (oLs D acc :: os) (K2 (p x)) → Gk L (rsI x) (gx :: st) (oLs D acc :: os) (tk tt K2))
    (elt : ∀ x, x ∈ xs → p x = true → ∀ (gx : R) (D : Addr) (acc : List R) (K' : KK), Gk L (rsI x) (r x :: gx :: st) (oLs D acc :: os) K' → Gk L (rsI x) (gx :: st) (oLs D acc :: os) (evk te K'))
    {σ : L2.St} {tl : List V} {H : Hp} (done : ∀ (D : Addr) (H' : Hp), S L rs (gh :: st) (oLs D ((xs.filter p).map r) :: os) σ (.non :: tl) H' → Qd D H')
    (s : S L rs (gh :: st) os σ (.non :: tl) H) : lcK J g tt te vs Qd σ H := by
  have gi : ∀ i, i < xs.length → ∃ x, xs[i]? = some x := fun i hi => ⟨_, List.getElem?_eq_getElem hi⟩
  refine lc_srcO src (T := Nat) (fun i s => s = i) (fun i => ((xs.take i).filter p).map r) (fun _ => os) (fun i => match xs[i]? with | some x => rsI x | none => []) 0 (fun s D => hOk _ D) rfl rfl rfl hn hwp (fun i hi => ?_) (fun i s D Ke Kn gx hi js hE hN => ?_) (fun s D H' js => ?_) s
  · obtain ⟨x, e⟩ := gi i hi
    rw [hY i x e, e]; exact hg x
  · subst js
    obtain ⟨x, e⟩ := gi s hi
    rw [e]
    have ts := take_snoc e
    have hx : x ∈ xs := List.mem_of_getElem? e
    refine turn x hx gx D _ _ ?_
    cases z : p x with
    | true =>
      intro σ us H w
      show (if true = true then _ else _)
      rw [if_pos rfl]
      refine elt x hx z gx D _ _ (hE (r x) (s + 1) _ rfl ?_) σ us H w
      show ((xs.take (s + 1)).filter p).map r = _
      rw [ts, List.filter_append, List.map_append, List.filter_cons_of_pos (by simpa using z)]; rfl
    | false =>
      intro σ us H w
      show (if false = true then _ else _)
      rw [if_neg Bool.false_ne_true]
      refine hN (s + 1) _ rfl ?_ σ us H w
      show ((xs.take (s + 1)).filter p).map r = _
      rw [ts, List.filter_append, List.map_append, List.filter_cons_of_neg (by simp [z])]; simp
  · subst js
    have e : xs.take xs.length = xs := List.take_length
    show S L rs (gh :: st) (oLs D (((xs.take xs.length).filter p).map r) :: os) σ (.non :: tl) H' → Qd D H'
    rw [e]
    exact done D H'
section
variable {L : Lk} {rs rw : List (Option R)} {st : List R} {os : List Own} {K : KK} {F : PySem.W.Frag} {tl te : TE} {g : TG} {tt : TT} {vs : List Nat} {ta : TA} {q0 : R}
theorem k_lcO {α : Type} {xs : List α} {t : α → R} {a : Addr} {j : Nat} [at_ : AtL os a (xs.map t) j] (p : α → Bool) (r : α → R) [w : WipeS rs vs rw] (rsI : α → List (Option R)) (hn : xs.length ≤ 10000) (hg : ∀ x, GOk g vs (t x) rw (rsI x))
    (turn : ∀ x, x ∈ xs → ∀ (gx : R) (D : Addr) (acc : List R) (K2 : Bool → KK), Gk L (rsI x) (gx :: st) (oLs D acc :: os) (K2 (p x)) → Gk L (rsI x) (gx :: st) (oLs D acc :: os) (tk tt K2))
    (elt : ∀ x, x ∈ xs → p x = true → ∀ (gx : R) (D : Addr) (acc : List R) (K' : KK), Gk L (rsI x) (r x :: gx :: st) (oLs D acc :: os) K' → Gk L (rsI x) (gx :: st) (oLs D acc :: os) (evk te K'))
    (done : ∀ D, Gk L rs (rA D :: st) (oLs D ((xs.filter p).map r) :: os) K) : Gk L rs (rA a :: st) os (lcLk F g tt te vs K) := fun σ us H s => by
  obtain ⟨B, hs, c, ho, hr, hst⟩ := s
  cases hst with
  | @cons _ x _ tl h1 h2 =>
    obtain ⟨gg, hg', ws, rfl, hw⟩ := pget ho at_.e
    have hH := c.own _ (c.mem hg') a _ sgl_same
    rw [show x = V.ref a from h1]
    have src := src_own (L := L) (F := F) (a := a) (qs := xs.map t)
    rw [List.length_map] at src
    have s0 : S L rs (rN :: st) os σ (.non :: tl) H := ⟨B, hs, c, ho, hr, .cons rfl h2⟩
    refine ⟨a, rfl, ⟨ws, .of hH⟩, lc_pureO src (fun i x e => ?_) p r rsI (fun l D => ⟨j + 1, by simpa using at_.e⟩) hn w.e hg turn elt (fun D H' s => ?_) s0⟩
    · rw [List.getD_eq_getElem?_getD, List.getElem?_map, e]; rfl
    · obtain ⟨B, hs, c, ho, hr, hst⟩ := s
      cases hst with
      | cons a b => exact done D σ _ H' ⟨B, hs, c, ho, hr, .cons rfl b⟩
end
/-! ### what is left behind a loop on the stack -/
section
variable {L : Lk} {rs : List (Option R)} {st : List R} {os : List Own} {D : Ends} {q gh : R}
theorem k_rtG (h : Gk L rs (q :: st) os (rtk D)) : Gk L rs (q :: gh :: st) os (rtk D) := fun σ vs H s => by
  obtain ⟨B, hs, c, ho, hr, hst⟩ := s
  cases hst with
  | @cons _ v _ _ a b =>
    cases b with
    | @cons _ w _ t b e => exact h σ (v :: t) H ⟨B, hs, c, ho, hr, .cons a e⟩
theorem k_nxG (h : Gk L rs st os (nxk D)) : Gk L rs (gh :: st) os (nxk D) := fun σ vs H s => by
  obtain ⟨B, hs, c, ho, hr, hst⟩ := s
  cases hst with
  | @cons _ v _ t a b => exact h σ t H ⟨B, hs, c, ho, hr, b⟩
end
theorem all_rS {B : Hp} {l : List Str} {vs : List V} (h : AllR B (l.map rS) vs) : vs = l.map V.str := by
  rw [map_rS] at h
  exact all_rV h
theorem k_index {L : Lk} {rs : List (Option R)} {st : List R} {os : List Own} {K : KK} {F : PySem.W.Frag} {q0 : R} {x : Str} {l : List Str} {j : Nat} [sl : SeqL F os q0 (l.map rS)] (e : l[j]? = some x) (hno : ∀ m, m < j → l[m]? ≠ some x) (h : Gk L rs (rI j :: st) os K) : GA L rs [rS x] (q0 :: st) os (bm2 (rIndex F) K) := fun σ us vs H hl s => by
  obtain ⟨B, hs, c, ho, hr, h1, h2⟩ := S.args hl s
  obtain ⟨v, rfl, ev⟩ := all1 h1
  cases h2 with
  | cons g1 g2 =>
    obtain ⟨a, ws, rfl, hq, hw⟩ := sl.get c ho g1
    rw [all_rS hw] at hq
    refine ⟨a, l.map V.str, .str x, j, .str x, rfl, by rw [show v = V.str x from ev], hq, rfl, flat_str l, by rw [List.getElem?_map, e]; rfl, by simp [eqV], fun m z' hm hz => ?_, h σ _ H ⟨B, hs, c, ho, hr, .cons rfl g2⟩⟩
    rw [List.getElem?_map] at hz
    cases q : l[m]? with
    | none => rw [q] at hz; cases hz
    | some y =>
      rw [q] at hz
      cases hz
      have hne : y ≠ x := fun e => hno m hm (e ▸ q)
      simp [eqV, hne]
theorem set_map {α β : Type} (f : α → β) : ∀ (l : List α) (n : Nat) (x : α), (l.set n x).map f = (l.map f).set n (f x)
  | [], _, _ => rfl
  | _ :: _, 0, _ => rfl
  | y :: l, n + 1, x => by rw [List.set_cons_succ, List.map_cons, List.map_cons, List.set_cons_succ, set_map f l n x]
theorem k_setLm {L : Lk} {rs : List (Option R)} {st : List R} {os os' : List Own} {D : Ends} {a : Addr} {j : Nat} {α : Type} {t : α → R} {xs : List α} {x : α} {i : Int} [hj : AtL os a (xs.map t) j] [o : SetO os j (oLs a ((xs.set i.toNat x).map t)) os'] (hi : 0 ≤ i ∧ i < xs.length) (h : Gk L rs st os' (nxk D)) : Gk L rs (rI i :: rA a :: t x :: st) os (subk rSetL D) := by
  rw [set_map] at o
  haveI : SetQ (xs.map t) i (t x) ((xs.map t).set i.toNat (t x)) := ⟨rfl⟩
  exact k_setL (hj := hj) (o := o) (by rw [List.length_map]; exact hi) h
theorem eraseIdx_set {α : Type} : ∀ (l : List α) (n : Nat) (x : α), (l.set n x).eraseIdx n = l.eraseIdx n
  | [], _, _ => rfl
  | _ :: _, 0, _ => rfl
  | y :: l, n + 1, x => by rw [List.set_cons_succ, List.eraseIdx_cons_succ, List.eraseIdx_cons_succ, eraseIdx_set l n x]
/-- a row of own parts: one of them to the front, and back -/
theorem row_out {α : Type} {f : α → Own} {l : List α} {n : Nat} {x : α} {fr : List Own} (e : l[n]? = some x) : (l.map f ++ fr).Perm (f x :: ((l.eraseIdx n).map f ++ fr)) := by
  obtain ⟨hn, hx⟩ := List.getElem?_eq_some_iff.mp e
  have p := ((erase_perm hn).map f).symm.append_right fr
  rw [hx] at p
  exact p
theorem row_in {α : Type} {f : α → Own} {l : List α} {n : Nat} {x : α} {fr : List Own} (h : n < l.length) : (f x :: ((l.eraseIdx n).map f ++ fr)).Perm ((l.set n x).map f ++ fr) := by
  have p := row_out (f := f) (l := l.set n x) (n := n) (x := x) (fr := fr) (by rw [List.getElem?_set_self h])
  rw [eraseIdx_set] at p
  exact p.symm
end G
/-! DA: the plain data of the laws about weavings (marks, rows, rules, things). Own work. -/
namespace W
open PySem PySem.Spec PyProof.Rows L2 C8 G

/-! ### signs -/
abbrev abc : Str := "abcdefghijklmnopqrstuvwxyz"
def Ltr (c : Nat) : Prop := c ∈ abc.cps.toList
theorem abc_eq : abc.cps.toList = (List.range 26).map (fun i => 97 + i) := by rfl
theorem abc_at {i : Int} (h : 0 ≤ i ∧ i < 26) : atI abc.cps.toList i = some (97 + i.toNat) := by
  rw [abc_eq]
  unfold atI ixN
  rw [if_pos h.1, List.length_map, List.length_range, if_pos (by exact_mod_cast h.2)]
  show ((List.range 26).map _)[i.toNat]? = _
  rw [List.getElem?_map, List.getElem?_range (by omega)]; rfl
theorem abc_ltr {i : Nat} (h : i < 26) : Ltr (97 + i) := by
  unfold Ltr
  rw [abc_eq]
  exact List.mem_map.mpr ⟨i, List.mem_range.mpr h, rfl⟩
abbrev cl (s : Str) : List Nat := s.cps.toList
theorem len_cl (s : Str) : s.length = (cl s).length := by
  show s.cps.size = _
  rw [Array.length_toList]
theorem cl_app (s t : Str) : cl (s ++ t) = cl s ++ cl t := by
  show (s.cps ++ t.cps).toList = _
  rw [Array.toList_append]
theorem cl_inj {s t : Str} (h : cl s = cl t) : s = t := by
  cases s; cases t
  congr
  exact Array.toList_inj.mp h
theorem cl_cut (z : Str) (lo hi : Option Int) : cl (cutS z lo hi) = ((cl z).drop (HT.sIx z.length 0 lo)).take (HT.sIx z.length z.length hi - HT.sIx z.length 0 lo) := by
  show ((((cl z).drop _).take _).toArray).toList = _
  rfl
theorem cut_sub {z : Str} {lo hi : Option Int} {c : Nat} (h : c ∈ cl (cutS z lo hi)) : c ∈ cl z := by
  rw [cl_cut] at h
  exact List.mem_of_mem_drop (List.mem_of_mem_take h)
theorem cut_len_to {z : Str} {k : Int} (h : 0 ≤ k) : (cl (cutS z none (some k))).length ≤ k.toNat := by
  rw [cl_cut]
  have : HT.sIx z.length z.length (some k) ≤ k.toNat := by
    show (if k < 0 then _ else min k.toNat z.length) ≤ _
    rw [if_neg (by omega)]
    exact Nat.min_le_left _ _
  rw [List.length_take]
  omega
theorem cut_len_seg {z : Str} {k : Int} {n : Nat} (h : 0 ≤ k) : (cl (cutS z (some k) (some (k + n)))).length ≤ n := by
  rw [cl_cut]
  have e1 : HT.sIx z.length z.length (some (k + n)) = min (k + n).toNat z.length := by
    show (if k + n < 0 then _ else min (k + n).toNat z.length) = _
    rw [if_neg (by omega)]
  have e2 : HT.sIx z.length 0 (some k) = min k.toNat z.length := by
    show (if k < 0 then _ else min k.toNat z.length) = _
    rw [if_neg (by omega)]
  rw [e1, e2, List.length_take, List.length_drop]
  omega
theorem cut_len_le {z : Str} {lo hi : Option Int} : (cl (cutS z lo hi)).length ≤ (cl z).length := by
  rw [← len_cl, ← len_cl]; exact cutS_length z lo hi

/-- a mark -/
def isMk (s : Str) : Prop := (1 ≤ (cl s).length ∧ (cl s).length ≤ 8) ∧ ∀ c ∈ cl s, Ltr c
theorem mk_front {c : Nat} {s : Str} (h : Ltr c) (hs : ∀ x ∈ cl s, Ltr x) (hl : (cl s).length ≤ 7) : isMk ((⟨#[c]⟩ : Str) ++ s) := by
  unfold isMk
  rw [cl_app]
  refine ⟨⟨?_, ?_⟩, ?_⟩
  · rw [List.length_append]; show 1 ≤ 1 + _; omega
  · rw [List.length_append]; show 1 + _ ≤ 8; omega
  · intro x hx
    rcases List.mem_append.mp hx with q | q
    · have : x = c := by simpa using q
      rw [this]; exact h
    · exact hs x q
theorem mk_back {c : Nat} {s : Str} (h : Ltr c) (hs : ∀ x ∈ cl s, Ltr x) (hl : (cl s).length ≤ 7) : isMk (s ++ (⟨#[c]⟩ : Str)) := by
  unfold isMk
  rw [cl_app]
  refine ⟨⟨?_, ?_⟩, ?_⟩
  · rw [List.length_append]; show 1 ≤ _ + 1; omega
  · rw [List.length_append]; show _ + 1 ≤ 8; omega
  · intro x hx
    rcases List.mem_append.mp hx with q | q
    · exact hs x q
    · have : x = c := by simpa using q
      rw [this]; exact h
/-- the sign of the k-th mark -/
def sg (s : Int) (k : Nat) : Nat := 97 + ((s + 5 * k) % 26).toNat
theorem sg_ltr (s : Int) (k : Nat) : Ltr (sg s k) := abc_ltr (by omega)
theorem sg_inj {s : Int} {i j : Nat} (hi : i < 6) (hj : j < 6) (h : sg s i = sg s j) : i = j := by
  unfold sg at h
  omega
/-- marks so far: their signs in front, or behind -/
def Mks (fr : Bool) (s : Int) (ms : List Str) : Prop := ∀ (k : Nat) m, ms[k]? = some m → isMk m ∧ (if fr = true then (cl m).head? = some (sg s k) else (cl m).getLast? = some (sg s k))
theorem Mks.nil {fr s} : Mks fr s [] := fun k m h => by simp at h
theorem Mks.front {s : Int} {ms : List Str} {r : Str} {n : Nat} (h : Mks true s ms) (hn : ms.length = n) (hs : ∀ x ∈ cl r, Ltr x) (hl : (cl r).length ≤ 7) : Mks true s (ms ++ [(⟨#[sg s n]⟩ : Str) ++ r]) := fun k m e => by
  rw [List.getElem?_append] at e
  split at e
  · exact h k m e
  · rename_i z
    cases q : k - ms.length with
    | zero =>
      rw [q] at e
      cases e
      have : k = n := by omega
      subst this
      refine ⟨mk_front (sg_ltr s k) hs hl, ?_⟩
      rw [if_pos rfl, cl_app]; rfl
    | succ i => rw [q] at e; simp at e
theorem Mks.back {s : Int} {ms : List Str} {r : Str} {n : Nat} (h : Mks false s ms) (hn : ms.length = n) (hs : ∀ x ∈ cl r, Ltr x) (hl : (cl r).length ≤ 7) : Mks false s (ms ++ [r ++ (⟨#[sg s n]⟩ : Str)]) := fun k m e => by
  rw [List.getElem?_append] at e
  split at e
  · exact h k m e
  · rename_i z
    cases q : k - ms.length with
    | zero =>
      rw [q] at e
      cases e
      have : k = n := by omega
      subst this
      refine ⟨mk_back (sg_ltr s k) hs hl, ?_⟩
      rw [if_neg Bool.false_ne_true, cl_app]
      show (cl r ++ [sg s k]).getLast? = _
      rw [List.getLast?_append]; rfl
    | succ i => rw [q] at e; simp at e
theorem Mks.mk {fr s ms} (h : Mks fr s ms) : ∀ m ∈ ms, isMk m := fun m hm => by
  obtain ⟨k, e⟩ := List.getElem?_of_mem hm
  exact (h k m e).1
theorem Mks.nodup {fr s ms} (h : Mks fr s ms) (hl : ms.length ≤ 6) : ms.Nodup := by
  unfold List.Nodup
  rw [List.pairwise_iff_getElem]
  intro i j hi hj hij e
  have h1 := (h i _ (List.getElem?_eq_getElem hi)).2
  have h2 := (h j _ (List.getElem?_eq_getElem hj)).2
  rw [e] at h1
  cases fr with
  | true =>
    rw [if_pos rfl] at h1 h2
    have := h1.symm.trans h2
    have := sg_inj (by omega) (by omega) (Option.some.inj this)
    omega
  | false =>
    rw [if_neg Bool.false_ne_true] at h1 h2
    have := h1.symm.trans h2
    have := sg_inj (by omega) (by omega) (Option.some.inj this)
    omega

/-! ### rows of a shape -/
structure Row where
  mark : Str
  parents : List Str
  least : Int
  most : Int
  shared : Bool
instance : Inhabited Row := ⟨⟨"", [], 0, 0, false⟩⟩
abbrev rRow (r : Row) : R := rLs [rS r.mark, rLs (r.parents.map rS), rI r.least, rI r.most, rB r.shared]
abbrev rRowT (r : Row) : R := rTp [rS r.mark, rTp (r.parents.map rS), rI r.least, rI r.most, rB r.shared]
/-- the k-th row that the laws draw, for the marks ms -/
structure RowAt (ms : List Str) (k : Nat) (r : Row) : Prop where
  mark : ms[k]? = some r.mark
  par : r.parents.Sublist ms
  num : 0 ≤ r.least ∧ r.least ≤ 1 ∧ r.least ≤ r.most ∧ r.most ≤ 2 ∧ (0 < r.most ↔ r.parents ≠ [])
  grow : r.least = 0 ∨ ∃ m ∈ r.parents, m ∈ ms.take k
/-- the rows that the laws draw, for the marks ms -/
structure RowsOk (ms : List Str) (rows : List Row) : Prop where
  marks : rows.map Row.mark = ms
  isMk : ∀ m ∈ ms, isMk m
  nodup : ms.Nodup
  par : ∀ r ∈ rows, r.parents.Sublist ms
  num : ∀ r ∈ rows, 0 ≤ r.least ∧ r.least ≤ 1 ∧ r.least ≤ r.most ∧ r.most ≤ 2 ∧ (0 < r.most ↔ r.parents ≠ [])
  grow : ∀ (k : Nat) r, rows[k]? = some r → r.least = 0 ∨ ∃ m ∈ r.parents, m ∈ ms.take k
theorem RowsOk.of {ms : List Str} {rows : List Row} (hm : ∀ m ∈ ms, W.isMk m) (hd : ms.Nodup) (hl : rows.length = ms.length) (h : ∀ (k : Nat) r, rows[k]? = some r → RowAt ms k r) : RowsOk ms rows where
  marks := by
    apply List.ext_getElem?
    intro k
    rw [List.getElem?_map]
    cases e : rows[k]? with
    | some r => exact (h k r e).mark.symm
    | none =>
      have : rows.length ≤ k := List.getElem?_eq_none_iff.mp e
      rw [List.getElem?_eq_none (by omega)]; rfl
  isMk := hm
  nodup := hd
  par := fun r hr => by obtain ⟨k, e⟩ := List.getElem?_of_mem hr; exact (h k r e).par
  num := fun r hr => by obtain ⟨k, e⟩ := List.getElem?_of_mem hr; exact (h k r e).num
  grow := fun k r e => (h k r e).grow

/-! ### rules -/
structure Way where
  held : Int
  owned : Int
  seen : Int
  late : Bool
instance : Inhabited Way := ⟨⟨0, 0, 0, false⟩⟩
abbrev rWay (w : Way) : R := rLs [rI w.held, rI w.owned, rI w.seen, rB w.late]
def WayOk (w : Way) : Prop := (0 ≤ w.held ∧ w.held ≤ 3) ∧ (0 ≤ w.owned ∧ w.owned ≤ 3) ∧ 0 ≤ w.seen ∧ w.seen ≤ 3
structure Rule where
  mark : Str
  start : Bool
  ways : List Way
abbrev rRuleV (r : Rule) : R := rLs [rB r.start, rLs (r.ways.map rWay)]
def RuleOk (r : Rule) : Prop := r.ways.length ≤ 2 ∧ ∀ w ∈ r.ways, WayOk w
def rulesKV (rs : List Rule) : List (Key × R) := rs.map fun r => (Sum.inr r.mark, rRuleV r)
theorem rulesKV_put {rs : List Rule} {r : Rule} (h : r.mark ∉ rs.map Rule.mark) : putKR (rulesKV rs) (Sum.inr r.mark) (rRuleV r) = rulesKV (rs ++ [r]) := by
  rw [putKR_new]
  · unfold rulesKV; rw [List.map_append]; rfl
  · intro p hp e
    unfold rulesKV at hp
    obtain ⟨x, hx, rfl⟩ := List.mem_map.mp hp
    exact h (List.mem_map.mpr ⟨x, hx, Sum.inr.inj e⟩)
theorem rulesKV_get {rs : List Rule} {r : Rule} (h : r ∈ rs) (hn : (rs.map Rule.mark).Nodup) : valR (rulesKV rs) (Sum.inr r.mark) = some (rRuleV r) := by
  unfold rulesKV
  refine valR_map (f := fun r : Rule => (Sum.inr r.mark : Key)) (r := rRuleV) h ?_
  have e : rs.map (fun r => (Sum.inr r.mark : Key)) = (rs.map Rule.mark).map Sum.inr := by rw [List.map_map]; rfl
  rw [e]
  unfold List.Nodup
  rw [List.pairwise_map]
  exact hn.imp fun h e => h (Sum.inr.inj e)
structure RulesOk (ms : List Str) (rs : List Rule) : Prop where
  marks : rs.map Rule.mark = ms
  ok : ∀ r ∈ rs, RuleOk r
theorem nodup_take {ms : List Str} (h : ms.Nodup) {i : Nat} {m : Str} (e : ms[i]? = some m) : m ∉ ms.take i := by
  have h2 : (ms.take (i + 1)).Nodup := h.sublist (List.take_sublist _ _)
  rw [take_snoc e] at h2
  intro hm
  exact (List.nodup_append.mp h2).2.2 _ hm _ (List.mem_singleton.mpr rfl) rfl

/-! ### things -/
structure Thing where
  mark : Str
  parents : List Int
  shared : Bool
instance : Inhabited Thing := ⟨⟨"", [], false⟩⟩
abbrev rThing (t : Thing) : R := rLs [rS t.mark, rLs (t.parents.map rI), rB t.shared]
/-- the k-th thing, over the rows -/
structure ThingAt (rows : List Row) (ts : List Thing) (k : Nat) (t : Thing) : Prop where
  row : ∃ r ∈ rows, r.mark = t.mark ∧ r.shared = t.shared ∧ (r.least ≤ t.parents.length ∧ t.parents.length ≤ r.most) ∧ ∀ p ∈ t.parents, (0 ≤ p ∧ p < k) ∧ ∃ u, ts[p.toNat]? = some u ∧ u.mark ∈ r.parents
  nodup : t.parents.Nodup
theorem ThingAt.app {rows : List Row} {ts : List Thing} {k : Nat} {t u : Thing} (h : ThingAt rows ts k t) : ThingAt rows (ts ++ [u]) k t := by
  obtain ⟨⟨r, h1, h2, h3, h4, h5⟩, h6⟩ := h
  refine ⟨⟨r, h1, h2, h3, h4, fun p hp => ?_⟩, h6⟩
  obtain ⟨q1, v, q2, q3⟩ := h5 p hp
  refine ⟨q1, v, ?_, q3⟩
  rw [List.getElem?_append_left (List.getElem?_eq_some_iff.mp q2).1]
  exact q2
def ThingsOk (rows : List Row) (ts : List Thing) : Prop := ∀ (k : Nat) t, ts[k]? = some t → ThingAt rows ts k t
theorem ThingsOk.snoc {rows : List Row} {ts : List Thing} {t : Thing} (h : ThingsOk rows ts) (ht : ThingAt rows ts ts.length t) : ThingsOk rows (ts ++ [t]) :=
  snoc_all (fun k r e => (h k r e).app) rfl ht.app
/-- the things that can be parents of one of the row r -/
def ableOf (ts : List Thing) (r : Row) : List Int := (rngL ((ts.length : Int) - 1) (-1) ((ts.length : Int) - 1 - -1).toNat).filter fun j => decide ((ts.getD j.toNat default).mark ∈ r.parents)
theorem ableOf_mem {ts : List Thing} {r : Row} {p : Int} (h : p ∈ ableOf ts r) : (0 ≤ p ∧ p < ts.length) ∧ ∃ u, ts[p.toNat]? = some u ∧ u.mark ∈ r.parents := by
  obtain ⟨h1, h2⟩ := List.mem_filter.mp h
  obtain ⟨i, hi, rfl⟩ := rngL_mem h1
  have hlt : (((ts.length : Int) - 1 + (i : Int) * -1).toNat) < ts.length := by omega
  refine ⟨by omega, _, List.getElem?_eq_getElem hlt, ?_⟩
  have := of_decide_eq_true h2
  rw [List.getD_eq_getElem?_getD, List.getElem?_eq_getElem hlt] at this
  exact this
theorem rngL_nodup {lo : Int} {n : Nat} : (rngL lo (-1) n).Nodup := by
  unfold rngL List.Nodup
  rw [List.pairwise_map]
  exact (List.nodup_range (n := n)).imp fun {a b} h e => h (by omega)
theorem ableOf_nodup {ts : List Thing} {r : Row} : (ableOf ts r).Nodup := List.Pairwise.sublist List.filter_sublist rngL_nodup
theorem ableOf_len {ts : List Thing} {r : Row} : (ableOf ts r).length ≤ ts.length := by
  refine Nat.le_trans (List.length_filter_le _ _) ?_
  rw [rngL_len]; omega
theorem getD_mem {α : Type} [Inhabited α] {l : List α} {n : Nat} (h : n < l.length) : l.getD n default ∈ l := by
  rw [List.getD_eq_getElem?_getD, List.getElem?_eq_getElem h]
  exact List.getElem_mem h

/-! ### numbers of ways -/
def numF (rank parents : Int) : Int := if rank = 2 then parents / 2 + 1 else if rank = 3 ∧ 0 < parents then parents else ([0, 1, 1, 1] : List Int).getD rank.toNat default
def wayN (w : Way) (k : Int) : Int := ([w.held, w.owned, w.seen] : List Int).getD k.toNat default
theorem wayN_at {w : Way} {k : Int} (h : 0 ≤ k ∧ k < 3) : atI [rI w.held, rI w.owned, rI w.seen, rB w.late] k = some (rI (wayN w k)) := by
  have : k = 0 ∨ k = 1 ∨ k = 2 := by omega
  rcases this with rfl | rfl | rfl <;> rfl
theorem wayN_ok {w : Way} (hw : WayOk w) {k : Int} (h : 0 ≤ k ∧ k < 3) : 0 ≤ wayN w k ∧ wayN w k ≤ 3 := by
  obtain ⟨h1, h2, h3⟩ := hw
  have : k = 0 ∨ k = 1 ∨ k = 2 := by omega
  rcases this with rfl | rfl | rfl
  · exact h1
  · exact h2
  · exact h3
theorem ThingsOk.mark {ms : List Str} {rows : List Row} {ts : List Thing} (hr : RowsOk ms rows) (h : ThingsOk rows ts) {k : Nat} (hk : k < ts.length) : (ts.getD k default).mark ∈ ms := by
  have e := List.getElem?_eq_getElem hk
  obtain ⟨⟨r, h1, h2, _⟩, _⟩ := h k _ e
  rw [List.getD_eq_getElem?_getD, e]
  show (ts[k]).mark ∈ ms
  rw [← hr.marks, ← h2]
  exact List.mem_map.mpr ⟨r, h1, rfl⟩
theorem RulesOk.get {ms : List Str} {rs : List Rule} (h : RulesOk ms rs) (hn : ms.Nodup) {m : Str} (hm : m ∈ ms) : ∃ r, valR (rulesKV rs) (Sum.inr m) = some (rRuleV r) ∧ RuleOk r := by
  rw [← h.marks] at hm hn
  obtain ⟨r, hr, rfl⟩ := List.mem_map.mp hm
  exact ⟨r, rulesKV_get hr hn, h.ok r hr⟩
theorem ThingsOk.par {rows : List Row} {ts : List Thing} (h : ThingsOk rows ts) {k : Nat} (hk : k < ts.length) : ∀ p ∈ (ts.getD k default).parents, 0 ≤ p ∧ p < k := by
  have e := List.getElem?_eq_getElem hk
  obtain ⟨⟨r, _, _, _, _, h5⟩, _⟩ := h k _ e
  rw [List.getD_eq_getElem?_getD, e]
  exact fun p hp => (h5 p hp).1
theorem RowsOk.parlen {ms : List Str} {rows : List Row} {ts : List Thing} (hr : RowsOk ms rows) (h : ThingsOk rows ts) {k : Nat} (hk : k < ts.length) : (ts.getD k default).parents.length ≤ 2 := by
  have e := List.getElem?_eq_getElem hk
  obtain ⟨⟨r, h1, _, _, h4, h5⟩, _⟩ := h k _ e
  rw [List.getD_eq_getElem?_getD, e]
  show (ts[k]).parents.length ≤ 2
  have := (hr.num r h1).2.2.2.1
  omega

/-! ### a dict of known marks -/
def knownKV (ks : List Str) : List (Key × R) := ks.map fun k => ((Sum.inr k : Key), rV (.bl true))
theorem known_some {m : Str} : ∀ {ks : List Str}, (valR (knownKV ks) (Sum.inr m)).isSome = decide (m ∈ ks)
  | [] => rfl
  | k :: ks => by
    have ih := known_some (m := m) (ks := ks)
    by_cases e : k = m
    · subst e
      simp [valR, knownKV]
    · have e1 : valR (knownKV (k :: ks)) (Sum.inr m) = valR (knownKV ks) (Sum.inr m) := by simp [valR, knownKV, e]
      have e2 : ¬ m = k := fun q => e q.symm
      rw [e1, ih]
      simp [e2]
theorem known_put {ks : List Str} {m : Str} (h : m ∉ ks) : putKR (knownKV ks) (Sum.inr m) (rV (.bl true)) = knownKV (ks ++ [m]) := by
  rw [putKR_new]
  · unfold knownKV; rw [List.map_append]; rfl
  · intro p hp e
    unfold knownKV at hp
    obtain ⟨x, hx, rfl⟩ := List.mem_map.mp hp
    exact h (Sum.inr.inj e ▸ hx)
theorem nodup_len {ks ms : List Str} (h : ks.Nodup) (hs : ∀ k ∈ ks, k ∈ ms) : ks.length ≤ ms.length := by
  induction ks generalizing ms with
  | nil => exact Nat.zero_le _
  | cons k ks ih =>
    have h := List.nodup_cons.mp h
    have hk := hs k List.mem_cons_self
    have := ih (ms := ms.erase k) h.2 fun x hx => (List.mem_erase_of_ne (fun e => by rw [e] at hx; exact h.1 hx)).mpr (hs x (List.mem_cons_of_mem _ hx))
    rw [List.length_erase_of_mem hk] at this
    have := List.length_pos_of_mem hk
    show ks.length + 1 ≤ _
    omega

/-! ### shapes -/
abbrev shapeF (ms : List Str) (rows : List Row) : List (Str × R) := [("_listed", rLs (rows.map rRowT)), ("_marks", rLs (ms.map rS))]
abbrev rShape (K : PySem.W.Frag) (ms : List Str) (rows : List Row) : R := rIn (He.ga K "Shape") (shapeF ms rows)
theorem RowsOk.inj {ms : List Str} {rows : List Row} (h : RowsOk ms rows) {i j : Nat} {r r' : Row} (hi : rows[i]? = some r) (hj : rows[j]? = some r') (e : r.mark = r'.mark) : i = j := by
  have e1 : ms[i]? = some r.mark := by rw [← h.marks, List.getElem?_map, hi]; rfl
  have e2 : ms[j]? = some r.mark := by rw [← h.marks, List.getElem?_map, hj, e]; rfl
  obtain ⟨h1, g1⟩ := List.getElem?_eq_some_iff.mp e1
  obtain ⟨h2, g2⟩ := List.getElem?_eq_some_iff.mp e2
  have nd := List.pairwise_iff_getElem.mp h.nodup
  rcases Nat.lt_trichotomy i j with z | z | z
  · exact absurd (g1.trans g2.symm) (nd i j h1 h2 z)
  · exact z
  · exact absurd (g2.trans g1.symm) (nd j i h2 h1 z)
end W
/-! DB: events: steps, what they leave, which are let. Own work. -/
namespace W
open PySem PySem.Spec PyProof.Rows L2 C8 G

inductive Deed where
  | own | share | drop
deriving DecidableEq
instance : Inhabited Deed := ⟨.own⟩
def Deed.s : Deed → Str
  | .own => "own"
  | .share => "share"
  | .drop => "drop"
theorem Deed.s_inj {a b : Deed} (h : a.s = b.s) : a = b := by
  cases a <;> cases b <;> first | rfl | (exact absurd h (by decide))
structure Step where
  deed : Deed
  thing : Int
deriving DecidableEq
instance : Inhabited Step := ⟨⟨.own, 0⟩⟩
abbrev rStep (s : Step) : R := rTp [rS s.deed.s, rI s.thing]
structure Ev where
  name : Int
  step : Step
deriving DecidableEq
instance : Inhabited Ev := ⟨⟨0, default⟩⟩
abbrev rEv (e : Ev) : R := rTp [rI e.name, rStep e.step]
/-- what stands at a thing for a program: 0 nothing, 1 own, 2 share; 2 more: dropped -/
def stOp (s : Int) (e : Ev) (n t : Int) : Int := if e.name = n ∧ e.step.thing = t then (match e.step.deed with | .drop => s + 2 | .own => 1 | .share => 2) else s
def stF (evs : List Ev) (n t : Int) : Int := evs.foldl (fun s e => stOp s e n t) 0
theorem stF_nil (n t : Int) : stF [] n t = 0 := rfl
theorem stF_snoc (evs : List Ev) (e : Ev) (n t : Int) : stF (evs ++ [e]) n t = stOp (stF evs n t) e n t := by
  unfold stF
  rw [List.foldl_append]; rfl
/-- the step is let behind the events -/
structure Legal (ts : List Thing) (evs : List Ev) (e : Ev) : Prop where
  thing : 0 ≤ e.step.thing ∧ e.step.thing < ts.length
  drop : e.step.deed = .drop → stF evs e.name e.step.thing = 1 ∨ stF evs e.name e.step.thing = 2
  lock : e.step.deed ≠ .drop → stF evs e.name e.step.thing = 0
  share : e.step.deed = .share → (ts.getD e.step.thing.toNat default).shared = true
  own2 : e.step.deed = .own → ∀ k, k ≠ e.name → stF evs k e.step.thing ≠ 1 ∧ stF evs k e.step.thing ≠ 2
  share2 : e.step.deed = .share → ∀ k, k ≠ e.name → stF evs k e.step.thing ≠ 1
inductive Run (ts : List Thing) : List Ev → Prop where
  | nil : Run ts []
  | snoc {evs : List Ev} {e : Ev} : Run ts evs → Legal ts evs e → Run ts (evs ++ [e])
/-- the values for a program -/
def valsOf (ts : List Thing) (evs : List Ev) (n : Int) : List Int := (List.range ts.length).map fun (t : Nat) => stF evs n (t : Int)
theorem valsOf_len {ts : List Thing} {evs : List Ev} {n : Int} : (valsOf ts evs n).length = ts.length := by unfold valsOf; simp
theorem valsOf_get {ts : List Thing} {evs : List Ev} {n t : Int} (h : 0 ≤ t ∧ t < ts.length) : (valsOf ts evs n).getD t.toNat default = stF evs n t := by
  unfold valsOf
  rw [List.getD_eq_getElem?_getD, List.getElem?_map, List.getElem?_range (by omega)]
  show stF evs n (t.toNat : Int) = _
  rw [Int.toNat_of_nonneg h.1]
def doV (v : Int) (d : Deed) : Int := match d with | .drop => v + 2 | .own => 1 | .share => 2
theorem valsOf_do {ts : List Thing} {evs : List Ev} {e : Ev} (h : 0 ≤ e.step.thing ∧ e.step.thing < ts.length) : valsOf ts (evs ++ [e]) e.name = (valsOf ts evs e.name).set e.step.thing.toNat (doV (stF evs e.name e.step.thing) e.step.deed) := by
  apply List.ext_getElem?
  intro i
  unfold valsOf
  rw [List.getElem?_map, List.getElem?_set, List.getElem?_map, List.length_map, List.length_range]
  by_cases hi : i < ts.length
  · rw [List.getElem?_range hi]
    show some (stF (evs ++ [e]) e.name (i : Int)) = _
    rw [stF_snoc]
    unfold stOp doV
    by_cases z : e.step.thing.toNat = i
    · have : e.step.thing = (i : Int) := by omega
      rw [if_pos ⟨rfl, this⟩, if_pos z, if_pos (by omega), this]
    · rw [if_neg (by intro q; omega), if_neg z]; rfl
  · rw [List.getElem?_eq_none (by simpa using hi)]
    by_cases z : e.step.thing.toNat = i
    · omega
    · rw [if_neg z]; rfl
theorem valsOf_other {ts : List Thing} {evs : List Ev} {e : Ev} {n : Int} (h : n ≠ e.name) : valsOf ts (evs ++ [e]) n = valsOf ts evs n := by
  unfold valsOf
  apply List.map_congr_left
  intro t _
  rw [stF_snoc]
  unfold stOp
  rw [if_neg (fun q => h q.1.symm)]
end W
namespace W
open PySem PySem.Spec PyProof.Rows L2 C8 G
/-- the values that the programs have, at their places -/
structure StsOk (ts : List Thing) (as : List Addr) (evs : List Ev) (sts : List (Addr × List Int)) : Prop where
  fst : sts.map Prod.fst = as
  snd : ∀ (i : Nat) p, sts[i]? = some p → p.2 = valsOf ts evs (i : Int)
theorem StsOk.len {ts as evs sts} (h : StsOk ts as evs sts) : sts.length = as.length := by rw [← h.fst, List.length_map]
theorem StsOk.get {ts as evs sts} (h : StsOk ts as evs sts) {x : Int} (hx : 0 ≤ x ∧ x < as.length) : sts[x.toNat]? = some (as.getD x.toNat default, valsOf ts evs x) := by
  have hl := h.len
  have hk : x.toNat < sts.length := by omega
  have e := List.getElem?_eq_getElem hk
  have e2 := h.snd _ _ e
  have e1 : as[x.toNat]? = some (sts[x.toNat]).1 := by rw [← h.fst, List.getElem?_map, e]; rfl
  rw [e, List.getD_eq_getElem?_getD, e1]
  show some sts[x.toNat] = some ((sts[x.toNat]).1, _)
  rw [Int.toNat_of_nonneg hx.1] at e2
  rw [← e2]
theorem StsOk.put {ts as evs sts} (h : StsOk ts as evs sts) {e : Ev} (hx : 0 ≤ e.name ∧ e.name < as.length) (ht : 0 ≤ e.step.thing ∧ e.step.thing < ts.length) :
    StsOk ts as (evs ++ [e]) (sts.set e.name.toNat (as.getD e.name.toNat default, (valsOf ts evs e.name).set e.step.thing.toNat (doV (stF evs e.name e.step.thing) e.step.deed))) := by
  have hg := h.get hx
  refine ⟨?_, fun i p hp => ?_⟩
  · rw [G.set_map, ← h.fst]
    apply List.ext_getElem?
    intro i
    rw [List.getElem?_set]
    split
    · rename_i z
      subst z
      rw [List.length_map, if_pos (List.getElem?_eq_some_iff.mp hg).1, List.getElem?_map, hg]; rw [h.fst]; rfl
    · rfl
  · rw [List.getElem?_set] at hp
    split at hp
    · rename_i z
      split at hp
      · cases hp
        have : (i : Int) = e.name := by omega
        rw [this]
        exact (valsOf_do ht).symm
      · cases hp
    · rename_i z
      rw [h.snd i p hp, valsOf_other (by omega)]
theorem perm3 {X S F : List Own} : (X ++ (S ++ F)).Perm (S ++ (X ++ F)) := by
  rw [← List.append_assoc, ← List.append_assoc]
  exact List.perm_append_comm.append_right F
theorem stF_none {evs : List Ev} {k t : Int} (h : ∀ e ∈ evs, e.name ≠ k) : stF evs k t = 0 := by
  have : ∀ s : Int, evs.foldl (fun s e => stOp s e k t) s = s := by
    induction evs with
    | nil => exact fun _ => rfl
    | cons e l ih =>
      intro s
      rw [List.foldl_cons]
      have : stOp s e k t = s := by unfold stOp; rw [if_neg (fun q => h e List.mem_cons_self q.1)]
      rw [this]
      exact ih (fun x hx => h x (List.mem_cons_of_mem _ hx)) s
  exact this 0
theorem k_forgetN {L : Lk} {rs : List (Option R)} {st : List R} {fr : List Own} {K : KK} : ∀ (os : List Own), Gk L rs st fr K → Gk L rs st (os ++ fr) K
  | [], h => h
  | O :: os, h => k_forget 0 (k_forgetN os h)
end W
/-! GL16: defs with a star parameter, by contract. Own work. -/
namespace G
open PySem PySem.Spec PyProof.Rows L2 C8

/-- the contract with what is left over written out -/
def starCt (c : Ct) (fro rest : c.δ → List R) : Ct := { c with pre := fun d => fro d ++ rest d }
theorem star_fn {c : Ct} {fro rest : c.δ → List R} {n : Nat} (h : ∀ d, c.pre d = fro d ++ [rTp (rest d)]) (hl : ∀ d, (fro d).length = n) (hz : ∀ d, c.ok d → (rest d).length ≤ 10000) {vs : List V} {H : Hp} {Q : VK} {E : XK} (hf : Fn (starCt c fro rest) vs H Q E) :
    ∃ ws us, vs = ws ++ us ∧ ws.length = n ∧ us.length ≤ sizeLine ∧ ∀ p, H p = Option.none → Fn c (ws ++ [V.ref p]) (upd H p (.tup us)) Q E := by
  obtain ⟨d, L, B, hs, gs, hok, cu, ho, hp, hQ⟩ := hf
  obtain ⟨ws, us, rfl, h1, h2⟩ := psplit hp
  refine ⟨ws, us, rfl, by rw [← AllR.len h1]; exact hl d, by rw [← AllR.len h2]; exact Nat.le_trans (hz d hok) (by decide), fun p hp => ?_⟩
  have ex : Ex B (upd B p (.tup us)) := Ex.new (cu.free hp)
  refine ⟨d, L, upd B p (.tup us), hs, gs, hok, cu.newB hp, pmap ho fun O _ q => O.mono ex q, ?_, fun e v H' B' hs' he ex' cu' hout hv => hQ e v H' B' hs' he (ex.trans ex') cu' hout hv⟩
  rw [h d]
  exact papp (AllR.mono ex h1) (.cons ⟨p, us, rfl, upd_same, AllR.mono ex h2⟩ .nil)
structure MetS (P : Program) (w : World) (K : PySem.W.Frag) (mg : Str → Option Value) (base : Heap) (k : Nat) (C : Addr) (m : Str) (sp : Sp) : Prop where
  ex : ∃ f : Addr, Cls K C ∧ Meth K C m f ∧ FnR P w K mg base C8.CX0 k f sp
structure MakS (P : Program) (w : World) (K : PySem.W.Frag) (mg : Str → Option Value) (base : Heap) (k : Nat) (x : Str) (C : Addr) (sp : Sp) : Prop where
  ex : ∃ f : Addr, Mk K C f ∧ FnR P w K mg base C8.CX0 k f sp ∧ mg x = some (.ref C)
abbrev StarBind (x qual : Str) (st : Stmt) (ps : List Str) (pv : Str) : Prop := ∀ (kV doc pm : Value) (an : Option Addr) (cdv ct : Value) (us rest : List Value), us.length = ps.length → bindArgs (PySem.W.fnOf x qual (defArgs st) (defBody st) (defScope st) .none kV doc pm an cdv ct) ⟨us ++ rest, []⟩ = (newTuple rest >>= fun t => pure (ps.zip us ++ [(pv, t)]))
section
variable {P : Program} {w : World} {K : PySem.W.Frag} {mg : Str → Option Value} {base : Heap}
theorem starR {x qual : Str} {st : Stmt} {f : Addr} {N ps : List Str} {pv : Str} {k : Nat} {c : Ct} {fro rest : c.δ → List R} (F : FnAt K x qual st f) (S : FnScope N (ps ++ [pv]) (defScope st)) (hb : StarBind x qual st ps pv)
    (h : ∀ d, c.pre d = fro d ++ [rTp (rest d)]) (hl : ∀ d, (fro d).length = ps.length) (hz : ∀ d, c.ok d → (rest d).length ≤ 10000)
    (hbody : ∀ (cdv : Value) (A : Around) (outer : List Env) (s : Shared) (H : Hp) (E : XK), Room k (A.deeper (envOfC qual (defScope st) s.heap.objs.size f cdv)) →
      ∃ t, PSs (cxOf C8.CX0 P w K mg base N qual (defScope st) f cdv A outer s H E).nox (defBody st) t ∧ Owes c N t) : FnR P w K mg base C8.CX0 (k + 1) f (Fn (starCt c fro rest)) := by
  obtain ⟨fd, F⟩ := F
  obtain ⟨oc, od, dV, kV, doc, pm, an, cdv, ct, osl, rfl, lk, hcd, hdv, _⟩ := F.ex
  have hdv : dV = .none := by
    rcases hdv with ⟨_, e⟩ | ⟨h, _⟩
    · exact e
    · exact absurd rfl h
  subst hdv
  refine FnR.imp (StX.fn_star (sp := Fn c) lk hcd S StX.cxUp_none (hb kV doc pm an cdv ct) fun A outer s H vs Q E hr hsp => ?_) fun vs H Q E hf => star_fn h hl hz hf
  obtain ⟨t, h1, h2⟩ := hbody cdv A outer s H E hr
  exact ⟨t, h1.nox, body hsp h2⟩
end
section
variable {X : Cx} {j k : Nat} {C : Addr} {m x : Str} {sp : Sp} {o e : Expr} {es : List Expr} {ta : TE} {t : TA} {p pos apos : Pos}
theorem pe_mkS (c : MakS X.prog X.w X.K X.mg X.base k x C sp) (hr : Room j X.A) (hk : k + 1 ≤ j) (hg : Gl X x) (ha : PA X (e :: es) t)
    (hdb : (x == ("__debug__" : Str)) = false := by decide) (he : starEach (e :: es) X.env = (false, eval e X.env) :: starEach es X.env := by rfl) (hpl : (backTo pos (starEach es X.env)).any (·.1) = false := by rfl) :
    PE X (.Call (.Name x p) (e :: es) [] pos) (tMake C sp [] C8.E0 t) := by
  obtain ⟨f, M, F, hm⟩ := c.ex
  have z := StX.pe_makeR (p := p) (pos := pos) M F (hr.mono hk) hg hm C8.pass0 (E := C8.E0) ha hdb he hpl
  have e : StX.tMakeR C sp C8.E0 t = tMake C sp [] C8.E0 t := by
    unfold StX.tMakeR tMake
    simp only [List.append_nil]
  rw [← e]
  exact z
theorem pe_mtS {pl : Sem Bool} (c : MetS X.prog X.w X.K X.mg X.base k C m sp) (hr : Room j X.A) (hk : k ≤ j) (he : PE X o ta) (ha : PA X (e :: es) t)
    (hst : starEach (e :: es) X.env = (false, eval e X.env) :: starEach es X.env := by rfl) (hpl : (backTo pos (starEach es X.env)).any (·.1) = false := by rfl)
    (ht : eval (.Call (.Attribute o m apos) (e :: es) [] pos) X.env = (do
      let ov ← eval o X.env
      standAt apos.atName
      let (f, first) ← holding [ov] (getMethod ov m pl)
      callWith pos f first (backTo pos (starEach (e :: es) X.env)) (backToKw pos (keywordEach [] X.env))) := by rfl) :
    PE X (.Call (.Attribute o m apos) (e :: es) [] pos) (tMeth C m sp [] C8.E0 ta t) := by
  obtain ⟨f, hc, hm, F⟩ := c.ex
  have z := pe_methR (pl := pl) he hc hm F (hr.mono hk) C8.pass0 (E := C8.E0) ha hst hpl ht
  have e : tMethR C m sp C8.E0 ta t = tMeth C m sp [] C8.E0 ta t := by
    unfold tMethR tMeth
    simp only [List.append_nil]
  rw [← e]
  exact z
end
end G
/-! GL17: for and list over an object whose own __iter__ gives iter(self.f). Own work. -/
namespace G
open PySem PySem.Spec PyProof.Rows L2 C8

/-- a call, here and now -/
theorem fn_now {CT : CXT} {P : Program} {w : World} {K : PySem.W.Frag} {mg : Str → Option Value} {base : Heap} {k : Nat} {f : Addr} {x qual : Str} {par : Arguments} {bd : List Stmt} {sc : Scope} {d1 d2 d3 d4 cd c6 oc : Value} {an od : Option Addr}
    {sl : Array (Option Value)} {N ps : List Str} {A : Around} {outer : List Env} {s : Shared} {H : Hp} {ar : Args} {us : List Value} {vs : List V} {Q : VK} {E : XK}
    (lk : K.lookup f = some ⟨oc, od, .func (PySem.W.fnOf x qual par bd sc d1 d2 d3 d4 an cd c6), sl⟩) (hc : PySem.W.codeIn K cd qual = true) (S : FnScope N ps sc)
    (hr : Room (k + 1) A) (e0 : Env0 P w K mg base A outer s H) (hb : BindsTo s (PySem.W.fnOf x qual par bd sc d1 d2 d3 d4 an cd c6) ar (ps.zip us)) (r : Vals vs us) (hl : vs.length = ps.length)
    (hbody : ∃ t, PSs (cxOf CT P w K mg base N qual sc f cd A outer s H E) bd t ∧ t { nx := fun _ H' => Q .non H', rt := Q } (L2.start N vs) H) :
    codeAny (model P w) A (.call (.ref f) ar) (CR CT outer P w H s Q E) s := by
  have kx : K.In s.heap :=
    e0.mod.kin.keeps fun b o q => (e0.bs b o q).1
  have kinds : ∀ y ∈ ps.zip us, sc.names.lookup y.1 = some .local ∨
      (sc.names.lookup y.1 = some .cell ∧ ((cellsFrom (s.heap.objs.size + 1) sc.names []).lookup y.1).isSome = true) := by
    intro y hy
    cases S.par y.1 (List.of_mem_zip hy).1 with
    | inl q => exact Or.inl q
    | inr q => exact Or.inr (And.intro q (PySem.W.cellsFrom_some _ _ _ (Or.inl q)))
  obtain ⟨t, ht, hq⟩ := hbody
  apply codeAny_call_function hr.depth (kx _ _ lk) rfl S.co S.gen rfl (PySem.W.codeRec_of kx hc)
  apply hb
  apply wpAny_newFunctionEnv_cells S.kind kinds
  intro env he s1 z
  cases he
  have lim0 : s.heap.NoLimit :=
    e0.mod.nolimit.keeps fun b o q => (e0.bs b o q).1
  refine And.intro (lim0.keeps z.toInCall.keep) (codeAny_func ?_)
  have J := inv_start (CX := CT) (E := E) S hr.hd e0 hl r z
  have back : ∀ {σ1 : L2.St} {H1 : Hp} {s2 : Shared} {v : V} {u : Value}, Inv (cxOf CT P w K mg base N qual sc f cd A outer s H E) [] σ1 H1 s2 → RelV v u → Q v H1 → CE outer P w H s Q u s2 := by
    intro σ1 H1 s2 v u I rv q
    exact ⟨v, H1, I.os, I.bare, I.base, I.hok, rv, q⟩
  apply wpAny_mono (ht.run [] s1 _ H _ J hq)
  · intro fl s2 h
    match fl, h with
    | .ret u, ⟨v, σ1, H1, I, rv, q⟩ => exact back I rv q
    | .next, ⟨σ1, H1, I, q⟩ => exact back (v := V.non) (u := Value.none) I rfl q
    | .brk, ⟨_, _, _, q⟩ => exact q.elim
    | .cont, ⟨_, _, _, q⟩ => exact q.elim
  · exact fun _ _ h => h

/-- a class with def __iter__(self): return iter(self.fl) -/
structure IterM (K : PySem.W.Frag) (mg : Str → Option Value) (C f : Addr) (fl qual : Str) (st : Stmt) : Prop where
  cls : Cls K C
  no : NoAttr K C fl
  free : mg "iter" = none
  at_ : PySem.W.findIn K (.ref C) "__iter__" = some (some (.ref f))
  fn : PySem.W.isFn K (.ref f) = true
  fd : FnAt K "__iter__" qual st f
  sc : FnScope ["self"] ["self"] (defScope st)
  bd : BindOk "__iter__" qual st ["self"]
  gl : (defScope st).names.lookup ("iter" : Str) = some NameKind.globalImplicit
  body : ∃ p1 p2 p3 p4 p5, defBody st = [.Return (some (.Call (.Name "iter" p1) [.Attribute (.Name "self" p2) fl p3] [] p4)) p5]
section
variable {X : Cx} {pins : List (Addr × Obj)} {σ : L2.St} {H : Hp} {s : Shared} {C f a dx l : Addr} {fl qual : Str} {st : Stmt} {fs : List (Str × V)} {zs : List V} {j : Nat}
theorem iter_call (M : IterM X.K X.mg C f fl qual st) {A : Around} (sb : Sub X (j + 1) A) (I : Inv X pins σ H s) (ha : H a = some (.ins C dx fs)) (hl : fs.lookup fl = some (.ref l)) (hz : SqL X.K H l zs) {Q Eo : Value → Shared → Prop}
    (hq : ∀ it s', Inv X pins σ (upd H it (ItO l it 0)) s' → H it = none → X.s_0.heap.objs.size ≤ it → Q (.ref it) s') : wpAny (model X.prog X.w) A (call (.ref f) [.ref a]) Q Eo s := by
  obtain ⟨fd, F⟩ := M.fd
  obtain ⟨oc, od, dV, kV, doc, pm, an, cdv, ct, osl, rfl, lk, hcd, hdv, _⟩ := F.ex
  have hd : dV = .none := by
    rcases hdv with ⟨_, e⟩ | ⟨h, _⟩
    · exact e
    · exact absurd rfl h
  subst hd
  have e0 : Env0 X.prog X.w X.K X.mg X.base A X.stack s H := by
    have e := I.env0
    exact ⟨by rw [sb.fr]; exact e.frames, e.mod, e.bs, e.bsz, e.funs, e.frf, e.hok, e.bare⟩
  obtain ⟨p1, p2, p3, p4, p5, eb⟩ := M.body
  have hsz : X.s_0.heap.objs.size ≤ s.heap.objs.size := I.sz
  have hbt : BindsTo s (PySem.W.fnOf "__iter__" qual (defArgs st) (defBody st) (defScope st) .none kV doc pm an cdv ct) ⟨[.ref a], []⟩ ([("self" : Str)].zip [Value.ref a]) := fun A' Ex Q' os h => by
    rw [M.bd kV doc pm an cdv ct [.ref a] rfl]
    exact wpAny_pure h
  refine wpAny_call (codeAny_mono (fn_now (CT := C8.CX0) (k := j) (vs := [V.ref a]) (Q := fun v H' => ∃ it, v = .ref it ∧ H it = none ∧ s.heap.objs.size ≤ it ∧ H' = upd H it (ItO l it 0)) (E := C8.E0) lk hcd M.sc sb.room e0 hbt (.cons rfl .nil) rfl ?_) fun r s' hq' => ?_)
  · rw [eb]
    refine ⟨_, pss_one (ps_ret (pe_callB ItX.call_iterN M.gl M.free (by decide +kernel) (pa_cons (pe_fld (pe_var (i := 0) rfl ((M.sc.par "self" (List.Mem.head _)).elim (fun z => .inl z) (fun z => .inr (.inl z)))) rfl) pa_nil))), ?_⟩
    refine ⟨.ref a, rfl, a, C, dx, fs, .ref l, rfl, ha, M.cls, M.no, hl, l, zs, rfl, hz, fun it h1 h2 => ⟨it, rfl, h1, h2, rfl⟩⟩
  · cases r with
    | error e => exact False.elim hq'
    | ok fl =>
      cases fl with
      | ret u =>
        obtain ⟨z, H', I', rz, it, e1, e2, e3, e4⟩ := I.after hq'
        subst e1 e4
        cases rz
        exact hq it s' I' e2 (Nat.le_trans hsz e3)
      | next => exact False.elim hq'
      | brk => exact False.elim hq'
      | cont => exact False.elim hq'
end

/-- for x in o -/
def iOwnL (K : PySem.W.Frag) (C : Addr) (fl : Str) (te : TE) : TI := fun σ H R => te σ H fun v H1 => ∃ a dx fs l zs, v = .ref a ∧ H1 a = some (.ins C dx fs) ∧ fs.lookup fl = some (.ref l) ∧ SqL K H1 l zs ∧ R (ItX.ItlF K l 0) H1
section
variable {X : Cx} {C f : Addr} {fl qual : Str} {st : Stmt} {j k : Nat} {tg e : Expr} {te : TE}
theorem pi_own (F : PySem.W.Frag) (M : IterM X.K X.mg C f fl qual st) (hr : Room j X.A) (hk : 2 ≤ j) (he : PE X e te) (h : X.K = F := by rfl) : PI X tg e (iOwnL F C fl te) := by
  subst h
  refine ⟨fun pins s σ H R I h => ?_⟩
  refine thn (he.run pins s σ H _ I h) fun v s1 ⟨x, H1, I1, rx, a, dx, fs, l, zs, ex, ha, hl, hz, q⟩ => ?_
  subst ex
  cases rx
  obtain ⟨od, J⟩ := inst_of I1 ha
  obtain ⟨m, hF⟩ := I1.fr
  refine PySem.W.owit_iter hF I1.ok.mod.kin J M.at_ M.fn (iter_call (j := 1) M ⟨hr.mono hk, rfl⟩ I1 ha hl hz fun it s' I2 hn hge => ?_)
  have hi : upd H1 it (ItO l it 0) it = some (ItO l it 0) := upd_same
  have eo := itO_get I2 hi
  have st0 : s'.heap.IsListIter it l (0 + 0) := ⟨_, eo, rfl, rfl⟩
  unfold PySem.W.OwitIt
  refine wpAny_specialOf (name := Str.ofString "__next__") ⟨_, eo, rfl⟩ slot_listiter_next.lookup ?_
  refine ⟨it, [it], _, _, ItX.dropH (upd H1 it (ItO l it 0)) it, rfl, ItX.inv_drop I2 hi, ItX.turn_listF l it 0, st0, fun b hb => ?_, ?_⟩
  · have e : b = it := by simpa using hb
    rw [e]
    exact ItX.inv_fp I2 hi hge
  · rw [ItX.dropH_upd hn]
    exact q
end
end G
/-! GL18: list(o) over an object whose own __iter__ gives iter(self.f) and whose own __len__ tells a number. Own work. -/
namespace G
open PySem PySem.Spec PyProof.Rows L2 C8

section
variable {X : Cx} {pins : List (Addr × Obj)} {σ : L2.St} {H : Hp} {C f a dx l q it : Addr} {fl qual : Str} {st : Stmt} {zs : List V} {j k : Nat} {A1 : Around} {Rs : Result → Shared → Prop}
theorem fp_upd {o : HO} (fp : FpOk X pins H it) (h : it ≠ q) : FpOk X pins (upd H q o) it := ⟨by rw [upd_ne h]; exact fp.1, fp.2⟩
theorem it_loop (hz : zs.length ≤ 100000) (hh : A1.in1.handled = none) (hq0 : H q = none) (hl : SqL X.K H l zs) (hqi : it ≠ q) (fp : FpOk X pins H it) (hdone : ∀ s, Inv X pins σ (upd H q (.lst zs)) s → Rs (.ok (.ret .none)) s) :
    ∀ (n i : Nat) (s : Shared), i + n = zs.length → Inv X pins σ (upd H q (.lst (zs.take i))) s → s.heap.IsListIter it l i → codeAny (model X.prog X.w) A1 (.builtin "list.extend.loop" ⟨[.ref q, .ref it, .none], []⟩) Rs s := by
  intro n
  induction n with
  | zero =>
    intro i s hi I sti
    have ei : i = zs.length := by omega
    subst ei
    rw [List.take_length] at I
    obtain ⟨g0, g1, g2, g3, g4, g5⟩ := fp_upd (o := .lst zs) fp hqi
    obtain ⟨its, rv, pl, _⟩ := I.list (ex_l (Ex.new hq0) hl)
    have el := rv.length
    refine codeAny_builtin PySem.F.entry_extend_loop ?_
    rw [Around.under_plainId PySem.F.plain_extend_loop _]; show wpAny _ _ (pyNext (.ref it) >>= _) _ _ s
    exact wpAny_bind (wpAny_pyNext_list_end hh sti pl.isList (by simp; omega) fun h' eb => wpAny_pure (hdone _ (I.turned (t' := s.toks) (fun b o hb e => eb b o hb e) g0 g1 g3 g4 g5)))
  | succ n ih =>
    intro i s hi I sti
    have hlt : i < zs.length := by omega
    have hx : zs[i]? = some zs[i] := List.getElem?_eq_getElem hlt
    obtain ⟨g0, g1, g2, g3, g4, g5⟩ := fp_upd (o := .lst (zs.take i)) fp hqi
    obtain ⟨its, rv, pl, _⟩ := I.list (ex_l (Ex.new hq0) hl)
    obtain ⟨u, hu, ru⟩ := rv.get hx
    refine codeAny_builtin PySem.F.entry_extend_loop ?_
    rw [Around.under_plainId PySem.F.plain_extend_loop _]; show wpAny _ _ (pyNext (.ref it) >>= _) _ _ s
    refine wpAny_bind (wpAny_pyNext_list_item sti pl.isList (x := u) (by simpa using hu) fun h' st' sb => ?_)
    have I1 : Inv X pins σ (upd H q (.lst (zs.take i))) { s with heap := h' } := I.turned (t' := s.toks) (fun b o hb e => (sb.2 b hb).trans e) g0 g1 g3 g4 g5
    obtain ⟨z, ts, kk, r2, hl2, e2⟩ := I1.lstM upd_same
    have htk : (zs.take i).length ≤ 100000 := by rw [List.length_take]; omega
    have hsz : (100000 : Nat) < sizeLine := by rw [sizeLine_eq]; decide
    show wpAny _ _ (updateSeq q (·.push u) >>= _) _ _ _
    refine wpAny_bind (wpAny_updateSeq e2 rfl (wpAny_pure ⟨plainId_quiet PySem.F.plain_extend_loop _, ?_⟩) (by rw [List.size_toArray]; omega) (by rw [Array.size_push, List.size_toArray]; omega))
    have I2 := I1.lset (f := (·.push u)) (its' := ts ++ [u]) (ys := zs.take i ++ [zs[i]]) (t' := s.toks) upd_same e2 (by simp) (r2.append (.cons ru .nil)) (by rw [List.length_append, List.length_singleton]; omega)
    rw [upd_upd, ← take_snoc hx] at I2
    refine ih (i + 1) _ (by omega) I2 (st'.at fun o e => ?_)
    exact (Heap.get?_update_other _ (Obj.mapSeq _) (Ne.symm hqi)).trans e
end

/-! ### own __len__: return len(self.fl) -/
def spLen (K : PySem.W.Frag) (C : Addr) (fl : Str) : Sp := fun vs H Q _ => ∃ a dx fs l zs, vs = [.ref a] ∧ H a = some (.ins C dx fs) ∧ fs.lookup fl = some (.ref l) ∧ SqL K H l zs ∧ Q (.int zs.length) H
structure LenM (K : PySem.W.Frag) (mg : Str → Option Value) (C f : Addr) (fl qual : Str) (st : Stmt) : Prop where
  cls : Cls K C
  no : NoAttr K C fl
  free : mg "len" = none
  me : Meth K C "__len__" f
  fd : FnAt K "__len__" qual st f
  sc : FnScope ["self"] ["self"] (defScope st)
  bd : BindOk "__len__" qual st ["self"]
  gl : (defScope st).names.lookup ("len" : Str) = some NameKind.globalImplicit
  body : ∃ p1 p2 p3 p4 p5, defBody st = [.Return (some (.Call (.Name "len" p1) [.Attribute (.Name "self" p2) fl p3] [] p4)) p5]
theorem len_met {P : Program} {w : World} {K : PySem.W.Frag} {mg : Str → Option Value} {base : Heap} {C f : Addr} {fl qual : Str} {st : Stmt} (M : LenM K mg C f fl qual st) : Met P w K mg base 1 C "__len__" (spLen K C fl) [] := by
  obtain ⟨fd, F⟩ := M.fd
  refine ⟨f, fd, ["self"], [], M.cls, M.me, F.ok M.sc (fun vs H Q E h => ?_) fun cdv A outer s H vs Q E hr h => ?_, F.bindsN M.bd, .nil⟩
  · obtain ⟨a, dx, fs, l, zs, rfl, _⟩ := h
    rfl
  · obtain ⟨a, dx, fs, l, zs, rfl, ha, hl, hz, hq⟩ := h
    obtain ⟨p1, p2, p3, p4, p5, eb⟩ := M.body
    rw [eb]
    refine ⟨_, pss_one (ps_ret (pe_callB (lenU K) M.gl M.free (by decide +kernel) (pa_cons (pe_fld (pe_var (i := 0) rfl ((M.sc.par "self" (List.Mem.head _)).elim (fun z => .inl z) (fun z => .inr (.inl z)))) rfl) pa_nil))), ?_⟩
    exact ⟨.ref a, rfl, a, C, dx, fs, .ref l, rfl, ha, M.cls, M.no, hl, .ref l, zs.length, rfl, .inl ⟨zs, hz, rfl⟩, hq⟩
section
variable {X : Cx} {pins : List (Addr × Obj)} {σ : L2.St} {H : Hp} {s : Shared} {C f a dx l : Addr} {fl qual : Str} {st : Stmt} {fs : List (Str × V)} {zs : List V} {A : Around}
theorem met_callE (c : Met X.prog X.w X.K X.mg X.base k C m sp []) {A : Around} (sb : Sub X k A) (I : Inv X pins σ H s) {us : List Value} {vs : List V} {Q' : VK} {Q Eo : Value → Shared → Prop} (r : Vals vs us) (h : sp vs H Q' C8.E0)
    (hq : ∀ v u H' s', Inv X pins σ H' s' → RelV v u → Q' v H' → Q u s') : ∃ f, PySem.W.findIn X.K (.ref C) m = some (some (.ref f)) ∧ PySem.W.isFn X.K (.ref f) = true ∧ wpAny (model X.prog X.w) A (call (.ref f) us) Q Eo s := by
  obtain ⟨f, fd, ps, ds, hc, hm, F, b, d⟩ := c.ex
  cases d
  refine ⟨f, hm.at_, hm.fn, ?_⟩
  have e0 : Env0 X.prog X.w X.K X.mg X.base A X.stack s H := by
    have e := I.env0
    exact ⟨by rw [sb.fr]; exact e.frames, e.mod, e.bs, e.bsz, e.funs, e.frf, e.hok, e.bare⟩
  have hl := F.len _ _ _ _ h
  refine wpAny_call (codeAny_mono (F.run A X.stack s H ⟨us, []⟩ us vs _ C8.E0 sb.room e0 (by
    have := b s us I.kIn (by rw [List.append_nil, ← r.length]; exact hl)
    simpa using this) r h) fun r s' hq' => ?_)
  cases r with
  | error e => exact False.elim hq'
  | ok fl =>
    cases fl with
    | ret w =>
      obtain ⟨z, H', I', rz, ez⟩ := I.after hq'
      exact hq z w H' s' I' rz ez
    | next => exact False.elim hq'
    | brk => exact False.elim hq'
    | cont => exact False.elim hq'
theorem hint_len (M : LenM X.K X.mg C f fl qual st) (sb : Sub X 1 A.in1) (I : Inv X pins σ H s) (ha : H a = some (.ins C dx fs)) (hl : fs.lookup fl = some (.ref l)) (hz : SqL X.K H l zs) (hs : zs.length ≤ 100000) {Q : Bool → Shared → Prop} {Eo : Value → Shared → Prop}
    (hq : ∀ b s', Inv X pins σ H s' → Q b s') : wpAny (model X.prog X.w) A (Builtin.List.listLengthHint (.ref a)) Q Eo s := by
  obtain ⟨od, J⟩ := inst_of I ha
  obtain ⟨m, hF⟩ := I.fr
  have c := len_met (P := X.prog) (w := X.w) (base := X.base) M
  unfold Builtin.List.listLengthHint
  refine wpAny_bind (wpAny_bind (J.type.here ((PySem.W.looks_findIn I.kIn M.me.at_).here ?_)))
  refine PySem.W.KFB.if_not rfl ?_
  show wpAny _ _ (if true = true then _ else _) _ _ _
  rw [if_pos rfl]
  refine wpAny_bind (wpAny_rule ?_)
  obtain ⟨f', h1, h2, h3⟩ := met_callE c sb I (us := [.ref a]) (vs := [.ref a]) (.cons rfl .nil) (Q' := fun z H' => z = .int zs.length ∧ H' = H) ⟨a, dx, fs, l, zs, rfl, ha, hl, hz, rfl, rfl⟩ (Q := PySem.W.LenBack fun v s' => (∃ t, v = .int zs.length t) ∧ Inv X pins σ H s') (Eo := fun _ _ => False) fun v u H' s' I' r ⟨e, eH⟩ => by
    subst e
    rw [eH] at I'
    obtain ⟨t, rfl⟩ := r
    exact ⟨⟨by omega, by omega⟩, ⟨_, rfl⟩, I'.tok _⟩
  refine wpAny_bind (wpAny_attempt (wpAny_mono (PySem.W.len_K hF I.ok.mod.kin J h1 h2 h3) (fun v s' ⟨⟨t, ev⟩, I'⟩ => ?_) fun _ _ z => z.elim))
  subst ev
  have nl : Builtin.List.listTooLong (zs.length : Int).toNat = false := notLongL (by rw [Int.toNat_natCast]; exact Nat.le_trans hs (by decide))
  refine wpAny_bind ?_
  refine wpAny_pure ?_
  dsimp only
  rw [nl]
  refine PySem.W.KFB.if_not rfl ?_
  exact wpAny_pure (hq _ _ I')
theorem upd_back {H : Hp} {q : Addr} {o : HO} (h : H q = some o) : upd H q o = H := by
  funext b
  by_cases e : b = q
  · subst e; rw [upd_same, h]
  · rw [upd_ne e]
theorem list_extend {f2 q : Addr} {qual2 : Str} {st2 : Stmt} {A1 : Around} {Rs : Result → Shared → Prop} (M : IterM X.K X.mg C f fl qual st) (M2 : LenM X.K X.mg C f2 fl qual2 st2) (sb : Sub X 2 A1.in1) (sb2 : Sub X 1 A1.in1.in1) (hh : A1.in1.handled = none) (hq0 : H q = none)
    (ha : H a = some (.ins C dx fs)) (hl : fs.lookup fl = some (.ref l)) (hz : SqL X.K H l zs) (hs : zs.length ≤ 100000) (I : Inv X pins σ (upd H q (.lst [])) s) (hdone : ∀ s, Inv X pins σ (upd H q (.lst zs)) s → Rs (.ok (.ret .none)) s) {Eo : Value → Shared → Prop} :
    wpAny (model X.prog X.w) A1.in1 (Builtin.List.listExtendWith (.ref q) (.ref a) .none)
      (fun fin s' => match fin with | .done f => Rs (.ok f) s' | .again c' => c'.quiet = true ∧ codeAny (model X.prog X.w) A1 c' Rs s') Eo s := by
  have haq : upd H q (.lst []) a = some (.ins C dx fs) := by rw [upd_ne (ne_of_none ha hq0)]; exact ha
  have hne : q ≠ a := fun e => by rw [e, ha] at hq0; cases hq0
  have hz1 : SqL X.K (upd H q (.lst [])) l zs := ex_l (Ex.new hq0) hz
  obtain ⟨od, J⟩ := inst_of I haq
  obtain ⟨m, hF⟩ := I.fr
  unfold Builtin.List.listExtendWith
  refine wpAny_bind (J.type.here ?_)
  have same : Builtin.List.listSameRef (.ref q) (.ref a) = false := by simp [Builtin.List.listSameRef, hne]
  have nl : (Value.ref C == Value.type "list") = false := rfl
  have nt : (Value.ref C == Value.type "tuple") = false := rfl
  simp only [same, nl, nt, Bool.or_false, Bool.false_eq_true, if_false]
  refine wpAny_bind (PySem.W.owit_iter hF I.ok.mod.kin J M.at_ M.fn (iter_call (j := 1) M sb I haq hl hz1 fun it s' I2 hn hge => ?_))
  have hi : upd (upd H q (.lst [])) it (ItO l it 0) it = some (ItO l it 0) := upd_same
  have eo := itO_get I2 hi
  have hiq : it ≠ q := fun e => by rw [e, upd_same] at hn; cases hn
  unfold PySem.W.OwitIt
  refine wpAny_specialOf (name := Str.ofString "__next__") ⟨_, eo, rfl⟩ slot_listiter_next.lookup ?_
  have fin : ∀ s3, Inv X pins σ (upd (upd H q (.lst [])) it (ItO l it 0)) s3 → codeAny (model X.prog X.w) A1 (.builtin "list.extend.loop" ⟨[.ref q, .ref it, .none], []⟩) Rs s3 := fun s3 I3 => by
    have fp := ItX.inv_fp I3 hi hge
    have I4 := ItX.inv_drop I3 hi
    rw [ItX.dropH_upd hn] at fp I4
    have fp0 : FpOk X pins H it := ⟨by have := fp.1; rw [upd_ne hiq] at this; exact this, fp.2⟩
    exact it_loop hs hh hq0 hz hiq fp0 hdone zs.length 0 s3 (by omega) I4 ⟨_, itO_get I3 hi, rfl, rfl⟩
  refine wpAny_bind (wpAny_holding (hint_len M2 sb2 I2 (a := a) (dx := dx) (by rw [upd_ne (ne_of_none haq hn)]; exact haq) hl (ex_l (Ex.new hn) hz1) hs fun b s3 I3 => ?_))
  have hq2 : upd (upd H q (.lst [])) it (ItO l it 0) q = some (.lst []) := by rw [upd_ne (Ne.symm hiq), upd_same]
  refine wpAny_ite_split (fun _ => ?_) (fun _ => wpAny_pure ⟨plainId_quiet PySem.F.plain_extend_loop _, fin s3 I3⟩)
  refine wpAny_bind (wpAny_rule (wpAny_bind ?_))
  obtain ⟨_, ts, _, r3, _, e3⟩ := I3.lstM hq2
  cases r3
  show wpAny _ _ (updateSeq q (·.push .none) >>= fun _ => updateSeq q (·.pop)) _ _ _
  have big : (1 : Nat) ≤ sizeLine := by rw [sizeLine_eq]; decide
  have I5 := I3.lset (f := (·.push Value.none)) (its' := [Value.none]) (ys := [.non]) (t' := s3.toks) hq2 e3 (by simp) (.cons rfl .nil) big
  obtain ⟨_, ts4, _, r4, _, e4⟩ := I5.lstM upd_same
  obtain ⟨u4, rfl, _⟩ := r4.one
  have I6 := I5.lset (f := (·.pop)) (its := [u4]) (its' := []) (ys := []) (t' := s3.toks) upd_same e4 (by rfl) .nil (Nat.zero_le _)
  rw [upd_upd, upd_back hq2] at I6
  exact wpAny_bind (wpAny_updateSeq e3 rfl (wpAny_updateSeq e4 rfl (wpAny_pure ⟨plainId_quiet PySem.F.plain_extend_loop _, fin _ I6⟩) big (Nat.zero_le _)))
def rListI (K : PySem.W.Frag) (C : Addr) (fl : Str) : List V → Hp → VK → Prop := fun xs H Q => ∃ a dx fs l zs, xs = [.ref a] ∧ H a = some (.ins C dx fs) ∧ fs.lookup fl = some (.ref l) ∧ SqL K H l zs ∧ zs.length ≤ 100000 ∧ ∀ q, H q = none → Q (.ref q) (upd H q (.lst zs))
theorem listI (F : PySem.W.Frag) {f2 : Addr} {qual2 : Str} {st2 : Stmt} {j : Nat} (M : IterM X.K X.mg C f fl qual st) (M2 : LenM X.K X.mg C f2 fl qual2 st2) (hc : X.calm = true) (hr : Room j X.A) (hk : 4 ≤ j) (h : X.K = F := by rfl) : CallR X (.type "list") (rListI F C fl) := by
  subst h
  intro pins s σ H xs us Q I rv h
  obtain ⟨a, dx, fs, l, zs, rfl, ha, hl, hz, hs, hq⟩ := h
  obtain ⟨u, rfl, ru⟩ := rv.one
  cases ru
  have sb0 : Sub X 4 X.A := ⟨hr.mono hk, rfl⟩
  have hS : (s.heap.push { cls := .type "list", data := .seq #[] }).get? s.heap.objs.size = some { cls := .type "list", data := .seq #[] } := Heap.get?_push_size _ rfl
  have fr : H s.heap.objs.size = none := I.hok.fresh (Nat.le_refl _)
  have I1 : Inv X pins σ (upd H s.heap.objs.size (.lst [])) { s with heap := s.heap.push { cls := .type "list", data := .seq #[] } } := I.lnew (its := []) (t' := s.toks) .nil (Nat.zero_le _)
  refine callType_codes (Q₁ := fun obj s₁ => obj = .ref s.heap.objs.size ∧ s₁ = { s with heap := s.heap.push { cls := .type "list", data := .seq #[] } }) PySem.F.called_list (PySem.F.typeCall_list_1 _) PySem.F.entry_list_init (code_list_new _ ⟨rfl, rfl⟩) fun obj s₁ h₁ => ?_
  obtain ⟨rfl, rfl⟩ := h₁
  refine ⟨⟨_, hS, rfl⟩, PySem.F.args_list_init_2 _ _, ?_⟩
  have I2 := I1.lset (f := fun _ => #[]) (its := []) (its' := []) (ys := []) (t' := s.toks) upd_same hS rfl .nil (Nat.zero_le _)
  rw [upd_upd] at I2
  show wpAny _ _ (Builtin.List.listItems (.ref s.heap.objs.size) >>= fun old => Builtin.List.listUpdate (.ref s.heap.objs.size) (fun _ => #[]) >>= fun _ => letGo old.toList.reverse >>= fun _ => Builtin.List.listExtendWith (.ref s.heap.objs.size) (.ref a) .none) _ _ _
  refine wpAny_bind ?_; unfold Builtin.List.listItems
  refine wpAny_bind (wpAny_seqItems hS rfl (wpAny_pure (wpAny_bind ?_)))
  show wpAny _ _ (updateSeq s.heap.objs.size fun _ => #[]) _ _ _
  refine wpAny_updateSeq hS rfl (wpAny_bind (wpAny_letGo ?_))
  exact list_extend (A1 := X.A.in1) (Rs := wants (fun r s₂ => r = .none ∧ EP X pins σ Q (.ref s.heap.objs.size) s₂) X.xe) M M2 (Sub.in1 (Sub.in1 (⟨hr.mono hk, rfl⟩ : Sub X 4 X.A))) (Sub.in1 (Sub.in1 (Sub.in1 (⟨hr.mono hk, rfl⟩ : Sub X 4 X.A)))) (I.ok.hd hc) fr ha hl hz hs I2 (fun s' I' => ⟨rfl, .ref s.heap.objs.size, _, I', rfl, hq _ fr⟩)
end
end G
/-! GL19: enumerate over a tuple. Own work. -/
namespace PySem
open Sem (wp)
open AutoSeq1 (wpAny_loadPart')
theorem ownEnumT_new (l : Addr) (items : Array Value) (n : Nat) (dct : Option Addr) (sl : Array (Option Value)) :
    Meets (Builtin.«enumerate.__new__» ⟨[.type "enumerate", .ref l], []⟩) (fun _ R s => s.heap.get? l = some { cls := .type "tuple", dict := dct, data := .seq items n, slots := sl } ∧
      R (.ok (.ret (.ref (s.heap.push { cls := .type "tuple_iterator", data := .fields #[.ref l, .int 0 0] }).objs.size)))
        { s with heap := (s.heap.push { cls := .type "tuple_iterator", data := .fields #[.ref l, .int 0 0] }).push { cls := .type "enumerate", data := .fields #[.none, .bool false, .ref s.heap.objs.size, rawInt 0, .none, .none] } }) :=
  .of_wp fun prog w A R s h => by
    obtain ⟨hp, g, d, tk, os⟩ := s; obtain ⟨hl, h⟩ := h
    have hs := sub_enumerate
    have hT : Heap.IsTuple (Shared.heap ⟨hp, g, d, tk, os⟩) l items := ⟨_, hl, rfl, n, rfl⟩
    wp_walk using wpAny_loadPart' hl
    refine wpAny_stack_any fun st => wpAny_pure ?_; split
    · rename_i c _ _ _ _ _
      cases (c == Value.type "enumerate")
      all_goals (wp_walk using wpAny_loadPart' hl, wpAny_pyIter_tuple hT; exact ⟨_, rfl, h⟩)
    · wp_walk using wpAny_loadPart' hl, wpAny_pyIter_tuple hT; exact ⟨_, rfl, h⟩
section
variable {prog : Program} {w : World} {A : Around} {E : Value → Shared → Prop} {s : Shared}
theorem ownEnumT_call {l : Addr} {items : Array Value} {Q : Value → Shared → Prop} (hL : s.heap.IsTuple l items)
    (h : ∀ h', IsEnum h' (s.heap.objs.size + 1) s.heap.objs.size 0 .none → h'.IsTupleIter s.heap.objs.size l 0 → h'.objs.size = s.heap.objs.size + 2 → (∀ b o, s.heap.get? b = some o → h'.get? b = some o) → Q (.ref (s.heap.objs.size + 1)) { s with heap := h' }) :
    wpAny (model prog w) A (call (.type "enumerate") [.ref l]) Q E s := by
  obtain ⟨⟨c, dct, dt, sl⟩, hl, hc, n, hd⟩ := hL
  obtain rfl : c = .type "tuple" := hc
  obtain rfl : dt = .seq items n := hd
  refine callType_new F.called_enumerate (by decide) (F.typeCall_enumerate_1 _) (F.newCall_enumerate_1 _) (fun obj => F.args_object_init_2 obj _) F.entry_enumerate_new (ownEnumT_new l items n dct sl) ⟨hl, ?_⟩
  have hz : (s.heap.push { cls := .type "tuple_iterator", data := .fields #[.ref l, .int 0 0] }).objs.size = s.heap.objs.size + 1 := Heap.size_push ..
  show _ ∧ _; rw [hz]
  have he : IsEnum ((s.heap.push { cls := .type "tuple_iterator", data := .fields #[.ref l, .int 0 0] }).push { cls := .type "enumerate", data := .fields #[.none, .bool false, .ref s.heap.objs.size, rawInt 0, .none, .none] }) (s.heap.objs.size + 1) s.heap.objs.size 0 .none := by
    have q := Heap.get?_push_size (s.heap.push { cls := .type "tuple_iterator", data := .fields #[.ref l, .int 0 0] }) (o := { cls := .type "enumerate", data := .fields #[.none, .bool false, .ref s.heap.objs.size, rawInt 0, .none, .none] }) rfl
    rw [hz] at q; exact q
  exact ⟨⟨_, he, rfl⟩, h _ he ⟨_, Heap.get?_push_of_some _ (Heap.get?_push_size _ rfl), rfl, rfl⟩ (by rw [Heap.size_push, hz]) fun b o x => Heap.get?_push_of_some _ (Heap.get?_push_of_some _ x)⟩
theorem ownDraws_tup (hh : A.handled = none) (it l : Addr) (hne : l ≠ it) (items : Array Value) : Draws prog w A it [it, l] items.size (fun i v => items[i]? = some v) (fun i h => h.IsTupleIter it l i ∧ h.IsTuple l items) where
  live := fun _ _ st => let ⟨o, ho, _⟩ := st.1; ⟨o, ho⟩
  frame := fun _ _ _ st hk => ⟨st.1.at fun o e => hk it (by simp) o e, st.2.at fun o e => hk l (by simp) o e⟩
  item := fun i s Q E hi st hQ => RZ.nextOf_tuple_item st.1 st.2 (x := items[i]) (by simp [hi]) fun h' hit' hs' => hQ _ h' s.toks (by simp [hi]) ⟨hit', st.2.extBut hs'.extBut hne⟩ hs'
  done := fun s Q E st hE => RZ.nextOf_tuple_end hh st.1 st.2 (by simp) hE
end
end PySem
namespace G
open PySem PySem.Spec PyProof.Rows L2 C8
/-- the tuple at a, each item in a new pair with its place -/
def Itet (K : PySem.W.Frag) (a : Addr) : It :=
  ⟨fun i H => ∃ (xs : List V) (x : V), SqT K H a xs ∧ xs[i]? = some x, fun i H v H' => ∃ T x, v = .ref T ∧ H T = none ∧ H' = upd H T (.tup [.int (i : Nat), x]) ∧ ∀ xs, SqT K H a xs → xs[i]? = some x, fun i H => ∃ xs : List V, SqT K H a xs ∧ xs.length ≤ i⟩
theorem turn_enumT {P : Program} {w : World} {K : PySem.W.Frag} {elts : List Expr} {kk : Nat} {tpos : Pos} (a e it : Addr) :
    Turn P w K (.Tuple elts kk tpos) (Itet K a) [e, it] e (fun i h => (∃ old, IsEnum h e it ((i : Nat) : Int) old) ∧ h.IsTupleIter it a i ∧ e ≠ it ∧ a ≠ it ∧ a ≠ e) where
  mem := by simp
  obj := fun i h st b hb => by
    obtain ⟨⟨old, he⟩, ⟨o, ho, hc, hd⟩, _⟩ := st
    rcases (show b = e ∨ b = it by simpa using hb) with z | z
    · rw [z]; exact ⟨_, he, fun v q => nomatch q⟩
    · rw [z]; exact ⟨o, ho, fun v q => by rw [hd] at q; cases q⟩
  keep := fun i h h' st k => ⟨let ⟨old, he⟩ := st.1; ⟨old, k e (by simp) _ he⟩, st.2.1.at fun o q => k it (by simp) o q, st.2.2⟩
  item := by
    intro X hP hw hK hc i pins s σ H E I hf st hg
    subst hP hw hK
    obtain ⟨⟨old, he⟩, hit, hne, hai, hae⟩ := st
    obtain ⟨xs, x, hq, hx⟩ := hg
    obtain ⟨its, rv, p, hz⟩ := I.tuple hq
    have pT : s.heap.IsTuple a its.toArray := p
    obtain ⟨u, hu, ru⟩ := rv.get hx
    have hel : e < s.heap.objs.size := Heap.lt_size he
    have hil : it < s.heap.objs.size := by obtain ⟨_, q, _⟩ := hit; exact Heap.lt_size q
    have hi : i < its.toArray.size := by
      rw [List.size_toArray]
      exact (List.getElem?_eq_some_iff.mp hu).1
    have D := ownDraws_tup (prog := X.prog) (w := X.w) (A := X.A.in1) (I.ok.hd hc) it a hai its.toArray
    refine wpAny_pyNext_enum_itemD D he ⟨hit, pT⟩ hi hne (by simp [hne, Ne.symm hae]) fun y h' tk hy ho st' hT hsz hk => ?_
    have ey : y = u := by
      have z : its[i]? = some y := by simpa using hy
      rw [hu] at z; exact (Option.some.inj z).symm
    subst ey
    refine ⟨_, rfl, wpAny_letOwnedTupleGo_enum (s := { s with heap := h', toks := tk + 1 }) ho fun h'' he' sb => ?_⟩
    have hT2 : h''.get? s.heap.objs.size = some { cls := .type "tuple", data := .seq #[.int i tk, y] } := (sb.2 _ (Nat.ne_of_gt hel)).trans hT
    have new : ObjOk X.prog X.w (upd H s.heap.objs.size (.tup [.int (i : Nat), x])) h'' s.heap.objs.size (.tup [.int (i : Nat), x]) :=
      ⟨by show 2 ≤ sizeLine; decide, [.int i tk, y], .cons ⟨_, rfl⟩ (.cons ru .nil), ⟨_, hT2, rfl, _, rfl⟩⟩
    have I1 : Inv X pins σ (upd H s.heap.objs.size (.tup [.int (i : Nat), x])) { s with heap := h'', toks := tk + 1 } :=
      I.turnedNew (ch := [e, it]) (fun b ob hb q => (sb.2 b fun z => hb (by simp [z])).trans (hk b ob (fun z => hb (by simp [z])) (fun z => hb (by simp [z])) q)) hf (Nat.le_refl _) new
    refine ⟨.ref s.heap.objs.size, _, I1, rfl, ⟨_, x, rfl, I.hok.fresh (Nat.le_refl _), rfl, fun ys hy => by rw [I.tuple_inj hy hq]; exact hx⟩, ⟨⟨y, ?_⟩, st'.1.at fun o q => (sb.2 it (Ne.symm hne)).trans q, hne, hai, hae⟩, fun b hb => ?_⟩
    · rw [show ((i + 1 : Nat) : Int) = (i : Int) + 1 from by omega]; exact he'
    · have hb' : b < s.heap.objs.size := by
        rcases (show b = e ∨ b = it by simpa using hb) with z | z <;> rw [z] <;> assumption
      rw [upd_ne (Nat.ne_of_lt hb')]
      exact (hf b hb).1
  done := by
    intro X hP hw hK hc i pins s σ H E I hf st hg
    subst hP hw hK
    obtain ⟨⟨old, he⟩, hit, hne, hai, hae⟩ := st
    obtain ⟨xs, hq, hx⟩ := hg
    obtain ⟨its, rv, p, hz⟩ := I.tuple hq
    have pT : s.heap.IsTuple a its.toArray := p
    obtain ⟨g0, g1, g2, g3, g4, g5⟩ := hf it (by simp)
    have el := rv.length
    have hT : s.TypeIs (.ref e) "enumerate" := ⟨_, he, rfl⟩
    unfold pyNext
    refine wpAny_bind (wpAny_attempt (wpAny_callSpecial?_slot (name := Str.ofString "__next__") hT F.slot_enumerate_next (wpAny_call_entry F.slot_enumerate_next hT F.entry_enumerate_next ?_ (F.args_enumerate_next_1 _))))
    show wpAny _ _ (field (.ref e) 2 >>= _) _ _ _; refine wpAny_bind (wpAny_field he rfl (x := .ref it) rfl ?_)
    refine wpAny_bind (RZ.nextOf_tuple_end (A := X.A.in1) (I.ok.hd hc) hit pT (by simp; omega) fun h' x he' hx' => ?_)
    obtain ⟨o, ho, hcl⟩ := hx'
    exact wpAny_bind (wpAny_isInstance (T := "StopIteration") (b := true) ⟨o, ho, hcl⟩ isSubtype_stop (wpAny_pure ⟨rfl, I.turned (t' := s.toks) (fun b o hb q => he' b o hb q) g0 g1 g3 g4 g5⟩))
  self := fun A i s Q E st h => let ⟨⟨_, he⟩, _⟩ := st; wpAny_pyIter_enum he h
def iEnumT (K : PySem.W.Frag) (ta : TA) : TI := fun σ H R => ta σ H fun vs H1 => ∃ a xs, vs = [.ref a] ∧ SqT K H1 a xs ∧ R (Itet K a) H1
theorem pi_enumT (F : PySem.W.Frag) {X : Cx} {e : Expr} {ta : TA} {p pos tpos : Pos} {elts : List Expr} {kk : Nat} (hg : Gl X "enumerate") (hm : X.mg "enumerate" = none) (ha : PA X [e] ta) (hs : starEach [e] X.env = [(false, eval e X.env)] := by rfl) (h : X.K = F := by rfl) :
    PI X (.Tuple elts kk tpos) (.Call (.Name "enumerate" p) [e] [] pos) (iEnumT F ta) := by
  subst h
  refine ⟨fun pins s σ H R I h => ?_⟩
  refine Call_ (ld_blt I hg hm boot_enumerate (PyProof.Rows.callWith_type1 (thn (ha.run pos pins s σ H _ I h) fun us s1 ⟨vs, H1, I1, r1, q1⟩ => ?_) hs rfl))
  obtain ⟨a, xs, rfl, hq, q⟩ := q1
  obtain ⟨u, rfl, ru⟩ := vals1 r1
  cases ru
  obtain ⟨its, rv, p', hz⟩ := I1.tuple hq
  have pT : s1.heap.IsTuple a its.toArray := p'
  have hal : a < s1.heap.objs.size := by obtain ⟨_, q, _⟩ := pT; exact Heap.lt_size q
  refine ownEnumT_call pT fun h' he hit hsz hk => wpAny_pyIter_enum he ?_
  have I2 : Inv X pins σ H1 { s1 with heap := h' } := I1.kept (t' := s1.toks) hk
  refine ⟨s1.heap.objs.size + 1, [s1.heap.objs.size + 1, s1.heap.objs.size], _, _, H1, rfl, I2, turn_enumT a (s1.heap.objs.size + 1) s1.heap.objs.size, ⟨⟨.none, he⟩, hit, Nat.succ_ne_self _, Nat.ne_of_lt hal, Nat.ne_of_lt (Nat.lt_succ_of_lt hal)⟩, fun b hb => ?_, q⟩
  have hle : s1.heap.objs.size ≤ b := by
    rcases (show b = s1.heap.objs.size + 1 ∨ b = s1.heap.objs.size by simpa using hb) with z | z <;> rw [z]
    · exact Nat.le_add_right _ _
    · exact Nat.le_refl _
  exact I1.fpOk hle (I1.hok.fresh hle)
end G
/-! GL20: the steps for enumerate over tuples, for and list over objects. Own work. -/
namespace G
open PySem PySem.Spec PyProof.Rows L2 C8
theorem src_enumT {L : Lk} {F : PySem.W.Frag} {a : Addr} {ws : List V} {qs : List R} (hn : qs.length = ws.length) : Src L (Itet F a) qs.length (fun i => rTp [rI i, qs.getD i rAny]) (rTv F a ws qs) where
  go := fun {i B hs H} hi c g => ⟨ws, ws[i]'(by omega), c.sqT g.2.1, by simp⟩
  stop := fun c g => ⟨ws, c.sqT g.2.1, by omega⟩
  yld := fun {i B hs H x H'} hi c g y => by
    obtain ⟨T, z, rfl, hT, rfl, y⟩ := y
    have e := y ws (c.sqT g.2.1)
    obtain ⟨v, hv, hq⟩ := pget g.2.2 (List.getElem?_eq_getElem hi)
    rw [e] at hv; cases hv
    have ex : Ex B (upd B T (.tup [.int (i : Nat), z])) := Ex.new (c.free hT)
    refine ⟨_, ex, c.newB hT, T, _, rfl, upd_same, .cons rfl (.cons ?_ .nil)⟩
    rw [List.getD_eq_getElem?_getD, List.getElem?_eq_getElem hi]
    exact R.mono _ ex hq
theorem src_listF {L : Lk} {F : PySem.W.Frag} {a : Addr} {ws : List V} {qs : List R} (hn : qs.length = ws.length) : Src L (ItX.ItlF F a 0) qs.length (fun i => qs.getD i rAny) (rLv F a ws qs) where
  go := fun {i B hs H} hi c g => ⟨ws, ws[i]'(by omega), c.sqL g.2.1, by rw [Nat.zero_add]; simp⟩
  stop := fun c g => ⟨ws, c.sqL g.2.1, by omega⟩
  yld := fun {i B hs H x H'} hi c g y => by
    obtain ⟨rfl, y⟩ := y
    have e := y ws (c.sqL g.2.1)
    rw [Nat.zero_add] at e
    obtain ⟨v, hv, hq⟩ := pget g.2.2 (List.getElem?_eq_getElem hi)
    rw [e] at hv; cases hv
    exact ⟨B, Ex.refl B, c, by rw [List.getD_eq_getElem?_getD, List.getElem?_eq_getElem hi]; exact hq⟩
section
variable {L : Lk} {rs rs' : List (Option R)} {st as : List R} {os os' fr : List Own} {K : KK} {D : Ends} {F : PySem.W.Frag} {q q0 : R} {g : TG} {te : TE} {tb : TS} {ta : TA} {qs : List R} {C : Addr} {f : Str}
def forEk (F : PySem.W.Frag) (g : TG) (tb : TS) (D : Ends) (us : List V) : KK := fun σ _ H => ∃ a xs, us = [.ref a] ∧ SqT F H a xs ∧ forJ (Itet F a) g tb D σ H
theorem k_forE (h : Gk L rs st os (ak ta (forEk F g tb D))) : Gk L rs st os (stk (tFor (iEnumT F ta) g tb) D) := fun σ vs H s => h σ vs H s
theorem k_forEn [sl : StT F q0 qs] {T : Type} (J : Nat → T → Prop) (rsF : T → List (Option R)) (osF : T → List Own) (s0 : T) (h0 : J 0 s0) (l0 : Le rs (rsF s0)) (o0 : os = osF s0)
    (turn : ∀ (i : Nat) (q gh : R) (s : T) (N : L2.St → Hp → Prop), qs[i]? = some q → J i s → (∀ s', J (i + 1) s' → Gk L (rsF s') (gh :: st) (osF s') (fun σ _ H => N σ H)) → Gk L (rsF s) (rTp [rI i, q] :: gh :: st) (osF s) (tgk g (Dn tb (Dl N D))))
    (done : ∀ s, J qs.length s → Gk L (rsF s) st (osF s) (nxk D)) : GA L rs [q0] st os (forEk F g tb D) := fun σ us vs H hl s => by
  obtain ⟨B, hs, c, ho, hr, h1, h2⟩ := S.args hl s
  obtain ⟨v, rfl, e⟩ := all1 h1
  obtain ⟨a, ws, rfl, hq, hw⟩ := sl.get e
  have elen : qs.length = ws.length := AllR.len hw
  refine ⟨a, ws, rfl, c.sqT hq, for_src (src_enumT elen) (fun _ _ h => ⟨rfl, h.2.1, h.2.2⟩) J rsF osF s0 h0 l0 o0 (fun i s N hi hj hN => ?_) done (tl := .non :: vs) ⟨B, hs, c, ho, hr, .cons ⟨rfl, hq, hw⟩ h2⟩⟩
  have e := turn i qs[i] (rTv F a ws qs) s N (List.getElem?_eq_getElem hi) hj hN
  rw [List.getD_eq_getElem?_getD, List.getElem?_eq_getElem hi]
  exact e
/-- for x in o -/
def forIk (F : PySem.W.Frag) (C : Addr) (f : Str) (g : TG) (tb : TS) (D : Ends) : KK := fun σ vs H => match vs with
  | v :: _ => ∃ a dx fs l zs, v = .ref a ∧ H a = some (.ins C dx fs) ∧ fs.lookup f = some (.ref l) ∧ SqL F H l zs ∧ forJ (ItX.ItlF F l 0) g tb D σ H
  | [] => False
theorem k_forI (h : Gk L rs st os (evk te (forIk F C f g tb D))) : Gk L rs st os (stk (tFor (iOwnL F C f te) g tb) D) := h
theorem k_forIn {fl : List (Str × R)} {qe : R} [r : InR os q0 C fl] [sl : StL F qe qs] (hf : fl.lookup f = some qe) {T : Type} (J : Nat → T → Prop) (rsF : T → List (Option R)) (osF : T → List Own) (s0 : T) (h0 : J 0 s0) (l0 : Le rs (rsF s0)) (o0 : os = osF s0)
    (turn : ∀ (i : Nat) (q gh : R) (s : T) (N : L2.St → Hp → Prop), qs[i]? = some q → J i s → (∀ s', J (i + 1) s' → Gk L (rsF s') (gh :: st) (osF s') (fun σ _ H => N σ H)) → Gk L (rsF s) (q :: gh :: st) (osF s) (tgk g (Dn tb (Dl N D))))
    (done : ∀ s, J qs.length s → Gk L (rsF s) st (osF s) (nxk D)) : Gk L rs (q0 :: st) os (forIk F C f g tb D) := fun σ vs H s => by
  obtain ⟨B, hs, c, ho, hr, hst⟩ := s
  cases hst with
  | @cons _ v _ vs h1 h2 =>
    obtain ⟨x, dx, fs, rfl, hx, hfs⟩ := r.get c ho h1
    obtain ⟨v, e1, e2⟩ := hfs.look hf
    obtain ⟨a, ws, rfl, hq, hw⟩ := sl.get e2
    have elen : qs.length = ws.length := AllR.len hw
    refine ⟨x, dx, fs, a, ws, rfl, hx, e1, c.sqL hq, for_src (src_listF elen) (fun _ _ h => ⟨rfl, h.2.1, h.2.2⟩) J rsF osF s0 h0 l0 o0 (fun i s N hi hj hN => ?_) done (tl := .non :: vs) ⟨B, hs, c, ho, hr, .cons ⟨rfl, hq, hw⟩ h2⟩⟩
    have e := turn i qs[i] (rLv F a ws qs) s N (List.getElem?_eq_getElem hi) hj hN
    rw [List.getD_eq_getElem?_getD, List.getElem?_eq_getElem hi]
    exact e
theorem k_listI {fl : List (Str × R)} {qe : R} [r : InR os q0 C fl] [sl : StL F qe qs] (hf : fl.lookup f = some qe) (hn : qs.length ≤ 100000) (h : Gk L rs (rLs qs :: st) os K) : GA L rs [q0] st os (cbk (rListI F C f) K) := fun σ us vs H hl s => by
  obtain ⟨B, hs, c, ho, hr, h1, h2⟩ := S.args hl s
  obtain ⟨v, rfl, e⟩ := all1 h1
  obtain ⟨x, dx, fs, rfl, hx, hfs⟩ := r.get c ho e
  obtain ⟨v, e1, e2⟩ := hfs.look hf
  obtain ⟨a, ws, rfl, hq, hw⟩ := sl.get e2
  refine ⟨x, dx, fs, a, ws, rfl, hx, e1, c.sqL hq, by rw [← AllR.len hw]; exact hn, fun p hp => h σ _ _ (newB c ho hr h2 hp ?_)⟩
  exact ⟨p, ws, rfl, upd_same, AllR.mono (Ex.new (c.free hp)) hw⟩
/-- attributes of the instances of a class -/
class FldI (F : PySem.W.Frag) (C : Addr) (f : Str) : Prop where
  c : Cls F C
  n : NoAttr F C f
theorem k_fldI {fl : List (Str × R)} [r : InR os q0 C fl] [i : FldI F C f] (hl : fl.lookup f = some q) (k : Gk L rs (q :: st) os K) : Gk L rs (q0 :: st) os (fldk F f K) := k_fld (r := r) i.c i.n hl k
end
end G
/-! GL21: if and for in the body of a generator. Own work. -/
namespace PySem
open Sem (wp)
section
variable {M : Model} {A : Around} {R : GenEnd} {Y : Protocol} {n : Nat} {s₀ : Shared} {c : Code} {fs : List Frame} {s : Shared} {env : Env} {K : Flow → Sem Fin} {J : Value → Sem Fin} {gd : Bool → Bool} {lv : List Value → List Value}
theorem own_seg_If {test : Expr} {b1 b2 : List Stmt} {pos : Pos} (h : wpAny M (A.over c fs) (isTrue test env (eval test env)) (fun b s' => if b = true then Seg M A R Y n s₀ c ((execs b1 env).wrap K J gd lv) fs s' else Seg M A R Y n s₀ c ((execs b2 env).wrap K J gd lv) fs s') (fun x s' => Seg M A R Y n s₀ c (J x) fs s') s) :
    Seg M A R Y n s₀ c ((exec (.If test b1 b2 pos) env).wrap K J gd lv) fs s := by
  show Seg M A R Y n s₀ c (.at pos fun _ => (isTrue test env (eval test env) >>= fun b => if b = true then execs b1 env else execs b2 env).wrap K J gd lv) fs s
  refine seg_at (seg_bind_wrap (wpAny_mono h (fun b s' hb => ?_) fun _ _ z => z))
  cases b with
  | true => rw [if_pos rfl] at hb ⊢; exact hb
  | false => rw [if_neg Bool.false_ne_true] at hb ⊢; exact hb
theorem own_seg_For {tg iter : Expr} {b1 b2 : List Stmt} {pos : Pos} (hs : ∀ x, foldedSetIterable iter env x = pure x)
    (h : wpAny M (A.over c fs) (eval iter env) (fun v s1 => wpAny M (A.over c fs) (pyIter v) (fun it s2 => ∀ p, Seg M A R Y n s₀ (.forLoop tg it b1 b2 env) (M.den (.forLoop tg it b1 b2 env))
      (.ret (fun r => ((match r with | .ok f => (.pure f : Sem Flow) | .error e => .raise e).onRaise fun (x : Value) => do
        if (← field x 1) == Value.none then unsupported "frame.own-activation:exception-without-traceback"
        setFlight x env.frame).wrap K J gd lv) none (gd false) (lv []) c p [] :: fs) s2) (fun x s' => Seg M A R Y n s₀ c (J x) fs s') s1) (fun x s' => Seg M A R Y n s₀ c (J x) fs s') s) :
    Seg M A R Y n s₀ c ((exec (.For tg iter b1 b2 pos) env).wrap K J gd lv) fs s := by
  show Seg M A R Y n s₀ c (.at pos fun _ => (eval iter env >>= fun v => foldedSetIterable iter env v >>= fun x => standAt iter.pos >>= fun _ => holding [x] (pyIter x) >>= fun it => runOwn (.forLoop tg it b1 b2 env) env).wrap K J gd lv) fs s
  refine seg_at (seg_bind_wrap (wpAny_mono h (fun v s1 h1 => ?_) fun _ _ z => z))
  refine seg_bind_wrap ?_
  rw [hs v]
  refine wpAny_pure (seg_bind_wrap (wpAny_standAt (seg_bind_wrap (wpAny_holding (wpAny_mono h1 (fun it s2 h2 => ?_) fun _ _ z => z)))))
  exact seg_call h2
end
section
variable {prog : Program} {w : World} {A : Around} {R : GenEnd} {Y : Protocol} {n : Nat} {s₀ : Shared} {fs : List Frame} {s : Shared} {env : Env}
/-- an exception within a loop's code -/
abbrev LoopOut (env : Env) (e : Value) : Sem Fin := (do noteFrame e env; theTreesLotGoes e : Sem Unit).wrap (fun _ => .raise e) .raise id id
theorem own_seg_forLoop {tg : Expr} {it : Value} {b1 b2 : List Stmt}
    (h : wpAny (model prog w) (A.over (.forLoop tg it b1 b2 env) fs) (pyNext it) (fun r s1 => match r with
      | none => Seg (model prog w) A R Y n s₀ (.forLoop tg it b1 b2 env) (.pure (.again (.block b2 env))) fs s1
      | some v => wpAny (model prog w) (A.over (.forLoop tg it b1 b2 env) fs) (letOwnedTupleGo tg it v) (fun _ s2 => wpAny (model prog w) (A.over (.forLoop tg it b1 b2 env) fs) (assign tg env v) (fun _ s3 =>
          Seg (model prog w) A R Y n s₀ (.forLoop tg it b1 b2 env) ((execs b1 env).wrap (fun f => match f with
            | .next | .cont => .pure (.again (.forLoop tg it b1 b2 env))
            | .brk => .pure (.done .next)
            | .ret v => .pure (.done (.ret v))) (LoopOut env) id id) fs s3) (fun x s' => Seg (model prog w) A R Y n s₀ (.forLoop tg it b1 b2 env) (LoopOut env x) fs s') s2) (fun x s' => Seg (model prog w) A R Y n s₀ (.forLoop tg it b1 b2 env) (LoopOut env x) fs s') s1)
      (fun x s' => Seg (model prog w) A R Y n s₀ (.forLoop tg it b1 b2 env) (LoopOut env x) fs s') s) :
    Seg (model prog w) A R Y n s₀ (.forLoop tg it b1 b2 env) ((model prog w).den (.forLoop tg it b1 b2 env)) fs s := by
  show Seg _ A R Y n s₀ _ ((forTurn tg it b1 b2 env).onRaise (fun x => do noteFrame x env; theTreesLotGoes x)) fs s
  have hw : ∀ x : Value, (do noteFrame x env; theTreesLotGoes x : Sem Unit).bind (fun _ => (.raise x : Sem Fin)) = LoopOut env x := fun x => by rw [Sem.bind_eq_wrap]
  rw [Sem.onRaise_eq_wrap]
  have e : (fun x : Value => (do noteFrame x env; theTreesLotGoes x : Sem Unit).bind (fun _ => (.raise x : Sem Fin))) = LoopOut env := funext hw
  try rw [e]
  unfold forTurn
  refine seg_bind_wrap (wpAny_standAt ?_)
  refine seg_bind_wrap (wpAny_onRaise (wpAny_mono h (fun r s1 h1 => ?_) fun x s' hx => wpAny_standAt ?_))
  · cases r with
    | none => exact h1
    | some v =>
      refine seg_bind_wrap (wpAny_mono h1 (fun _ s2 h2 => ?_) fun x s' hx => ?_)
      · refine seg_bind_wrap (wpAny_mono h2 (fun _ s3 h3 => ?_) fun x s' hx => ?_)
        · rw [Sem.bind_eq_wrap', Sem.wrap_wrap]
          refine cast (congrArg (fun t => Seg (model prog w) A R Y n s₀ (.forLoop tg it b1 b2 env) t fs s3) (Sem.wrap_congr (execs b1 env) _ _ (fun f => ?_) (fun x => ?_))) h3
          · cases f <;> rfl
          · first | rfl | exact (hw x).symm
        · first | exact hx | (rw [hw x]; exact hx)
      · first | exact hx | (rw [hw x]; exact hx)
  · first | exact hx | (rw [hw x]; exact hx)
end
end PySem
namespace G
open PySem PySem.Spec PyProof.Rows L2
section
variable {X : Cx}
def tGIf (tc : TT) (t u : TGn) : TGn := fun D ys σ H => tc σ H fun b H1 => if b = true then t D ys σ H1 else u D ys σ H1
theorem gs_if {test : Expr} {b1 b2 : List Stmt} {pos : Pos} {tc : TT} {t u : TGn} (hc : PT X test tc) (h1 : GSs X b1 t) (h2 : GSs X b2 u) : GS X (.If test b1 b2 pos) (tGIf tc t u) := by
  refine ⟨fun A S ip R n ys s₀ c fs K J gd lv s σ H D g hn k hI ht => own_seg_If ?_⟩
  rw [g.over]
  obtain ⟨acc, cc, r, I⟩ := hI
  refine wpAny_mono (hc.run _ s σ H _ I ht) (fun b s' hb => ?_) fun x s' hx => k.exc n s₀ x s' hx
  obtain ⟨H2, I2, q2⟩ := hb
  cases b with
  | true =>
    rw [if_pos rfl] at q2 ⊢
    exact h1.run A S ip R n ys s₀ c fs K J gd lv s' σ H2 D g hn k ⟨acc, cc, r, I2⟩ q2
  | false =>
    rw [if_neg Bool.false_ne_true] at q2 ⊢
    exact h2.run A S ip R n ys s₀ c fs K J gd lv s' σ H2 D g hn k ⟨acc, cc, r, I2⟩ q2
def tGFor (wi : TI) (g : TG) (tb : TGn) : TGn := fun D ys σ H => wi σ H fun J H1 => ∃ W : Nat → Nat → List V → L2.St → Hp → Prop, (∃ m, W 0 m ys σ H1) ∧ ∀ i m ys σ H, W i m ys σ H →
  (J.stop i H ∧ D.nx ys σ H) ∨ (J.go i H ∧ ∃ N : List V → L2.St → Hp → Prop, (∀ ys' σ' H', N ys' σ' H' → ∃ m', m' < m ∧ W (i + 1) m' ys' σ' H') ∧ ∀ x H', J.yld i H x H' → g x σ H' fun σ2 H2 => tb { D with nx := N, ct := N, bk := D.nx } ys σ2 H2)
theorem gs_for {tg iter : Expr} {body : List Stmt} {pos : Pos} {wi : TI} {g : TG} {tb : TGn} (hp : PassesOwn (model X.prog X.w) X.A X.env X.xe) (hcalm : X.calm = true) (hi : PI X tg iter wi) (hg : PG X tg g) (hb : GSs X body tb)
    (hs : ∀ x, foldedSetIterable iter X.env x = pure x := by intro _; rfl) : GS X (.For tg iter body [] pos) (tGFor wi g tb) := by
  refine ⟨fun A S ip R n ys s₀ c fs K J gd lv s σ H D gc hn k hI ht => own_seg_For hs ?_⟩
  rw [gc.over]
  obtain ⟨acc0, cc0, r0, I0⟩ := hI
  refine wpAny_mono (hi.run _ s σ H _ I0 ht) (fun v s1 h1 => wpAny_mono h1 (fun itv s2 h2 => ?_) fun x s' hx => k.exc n s₀ x s' hx) fun x s' hx => k.exc n s₀ x s' hx
  obtain ⟨it, fp, tn, Ji, H2, e, I2, T, st2, f2, W, ⟨m0, w0⟩, turn⟩ := h2
  subst e
  intro p
  have gl := fun (kk : Result → Sem PySem.Fin) => gc_loop (k := kk) (c' := .forLoop tg (.ref it) body [] X.env) (l := lv []) (kp := []) (p := p) gc rfl rfl
  have fpS : ∀ b ∈ fp, b ≠ S := fun b hb z => (f2 b hb).2.2.2.2.2 (S, lstObj acc0 cc0) (List.mem_append_right _ List.mem_cons_self) z.symm
  have stat : ∀ {acc : Array Value} {cc : Nat} {H' : Hp}, (∀ b ∈ fp, H' b = none) → ∀ b ∈ fp, FpOk X ((S, lstObj acc cc) :: ip) H' b := fun {acc cc H'} hz b hb => by
    obtain ⟨_, g1, g2, g3, g4, g5⟩ := f2 b hb
    refine ⟨hz b hb, g1, g2, g3, g4, fun q hq => ?_⟩
    rcases List.mem_append.mp hq with hq | hq
    · exact g5 q (List.mem_append_left _ hq)
    · rcases List.mem_cons.mp hq with hq | hq
      · rw [hq]; exact Ne.symm (fpS b hb)
      · exact g5 q (List.mem_append_right _ (List.mem_cons_of_mem _ hq))
  have loop : ∀ (m i n : Nat) (ys : List V) (s₀ s : Shared) (σ : L2.St) (H : Hp), n + ys.length = sizeLine → W i m ys σ H → GI X S ip ys σ H s → tn i s.heap → (∀ b ∈ fp, H b = none) →
      Seg (model X.prog X.w) A R (GY X S) n s₀ (.forLoop tg (.ref it) body [] X.env) ((model X.prog X.w).den (.forLoop tg (.ref it) body [] X.env))
        (.ret (fun r => ((match r with | .ok f => (.pure f : Sem Flow) | .error e => .raise e).onRaise (cameBack X.env)).wrap K J gd lv) none (gd false) (lv []) c p [] :: fs) s := by
    intro m
    induction m using Nat.strongRecOn with
    | ind m ih =>
      intro i n ys s₀ s σ H hn w hI st fr
      have ee : ∀ (n : Nat) (s₀ : Shared) (x : Value) (s' : Shared), X.xe x s' → Seg (model X.prog X.w) A R (GY X S) n s₀ (.forLoop tg (.ref it) body [] X.env) (LoopOut X.env x)
          (.ret (fun r => ((match r with | .ok f => (.pure f : Sem Flow) | .error e => .raise e).onRaise (cameBack X.env)).wrap K J gd lv) none (gd false) (lv []) c p [] :: fs) s' := fun n s₀ x s' hx => by
        refine seg_wrap ?_
        rw [(gl _).over]
        exact wpAny_bind (wpAny_mono (hp x s' hx) (fun _ s'' hcb => wpAny_theTreesLotGoes (seg_leaf (.error x) (seg_cameBack gc k hcb))) fun y s'' hcb => seg_leaf (.error y) (seg_cameBack gc k hcb))
      refine own_seg_forLoop ?_
      rw [(gl _).over]
      obtain ⟨acc, cc, r, I⟩ := hI
      rcases turn i m ys σ H w with ⟨stop, qn⟩ | ⟨go, N, hN, step⟩
      · refine wpAny_mono (T.done X rfl rfl rfl hcalm i _ s σ H X.xe I (stat fr) st stop) (fun q s4 hq => ?_) fun x s' hx => ee n s₀ x s' hx
        obtain ⟨rfl, I4⟩ := hq
        refine seg_again rfl ?_
        exact seg_leaf (.ok .next) (k.ok n ys s₀ s4 .next hn ⟨σ, H, ⟨acc, cc, r, I4⟩, qn⟩)
      · refine wpAny_mono (T.item X rfl rfl rfl hcalm i _ s σ H X.xe I (stat fr) st go) (fun q s4 hq => ?_) fun x s' hx => ee n s₀ x s' hx
        obtain ⟨u, rfl, h4⟩ := hq
        refine wpAny_mono h4 (fun _ s5 h5 => ?_) fun x s' hx => ee n s₀ x s' hx
        obtain ⟨x, H5, I5, r5, y5, st5, fr5⟩ := h5
        have I5' := I5.pinned (stat fr5) (T.obj _ _ st5)
        refine wpAny_mono (hg.run _ s5 σ H5 x u _ I5' r5 (step x H5 y5)) (fun _ s6 h6 => ?_) fun x s' hx => ee n s₀ x s' hx
        obtain ⟨σ6, H6, I6, q6⟩ := h6
        have ips : ∀ q ∈ ip ++ pinsAt fp s5.heap, q.1 ≠ S := fun q hq => by
          rcases List.mem_append.mp hq with hq | hq
          · exact gc.ip q hq
          · exact fpS q.1 (of_pinsAt hq).1
        have unp : ∀ {ys' : List V} {σ' : L2.St} {H' : Hp} {s' : Shared}, GI X S (ip ++ pinsAt fp s5.heap) ys' σ' H' s' → GI X S ip ys' σ' H' s' ∧ tn (i + 1) s'.heap ∧ ∀ b ∈ fp, H' b = none := fun {ys' σ' H' s'} hI => by
          obtain ⟨acc', cc', r', I'⟩ := hI
          have pin : ∀ b ∈ fp, ∀ o, s5.heap.get? b = some o → s'.heap.get? b = some o ∧ H' b = none := fun b hb o e =>
            let z := I'.pin (b, o) (List.mem_append_right _ (List.mem_cons_of_mem _ (List.mem_append_right _ (mem_pinsAt hb e))))
            ⟨z.1, z.2.1⟩
          refine ⟨⟨acc', cc', r', Inv.unpinned (pins := (S, lstObj acc' cc') :: ip) I'⟩, T.keep _ _ _ st5 fun b hb o e => (pin b hb o e).1, fun b hb => ?_⟩
          obtain ⟨o, e, _⟩ := T.obj _ _ st5 b hb
          exact (pin b hb o e).2
        refine hb.run A S (ip ++ pinsAt fp s5.heap) R n ys s₀ _ _ _ _ id id s6 σ6 H6 { D with nx := N, ct := N, bk := D.nx } { gl _ with ip := ips } hn ⟨fun n' ys' s₀' s7 f hn' hs' => ?_, fun n' s₀' x s7 hx => ee n' s₀' x s7 hx⟩ ⟨acc, cc, r, I6⟩ q6
        cases f with
        | next =>
          obtain ⟨σ7, H7, I7, n7⟩ := hs'
          obtain ⟨G7, st7, fr7⟩ := unp I7
          obtain ⟨m', hm, w7⟩ := hN ys' σ7 H7 n7
          exact seg_again rfl (ih m' hm (i + 1) n' ys' s₀' s7 σ7 H7 hn' w7 G7 st7 fr7)
        | cont =>
          obtain ⟨σ7, H7, I7, n7⟩ := hs'
          obtain ⟨G7, st7, fr7⟩ := unp I7
          obtain ⟨m', hm, w7⟩ := hN ys' σ7 H7 n7
          exact seg_again rfl (ih m' hm (i + 1) n' ys' s₀' s7 σ7 H7 hn' w7 G7 st7 fr7)
        | brk =>
          obtain ⟨σ7, H7, I7, n7⟩ := hs'
          exact seg_leaf (.ok .next) (k.ok n' ys' s₀' s7 .next hn' ⟨σ7, H7, (unp I7).1, n7⟩)
        | ret v =>
          obtain ⟨x7, σ7, H7, I7, r7, n7⟩ := hs'
          exact seg_leaf (.ok (.ret v)) (k.ok n' ys' s₀' s7 (.ret v) hn' ⟨x7, σ7, H7, (unp I7).1, r7, n7⟩)
  exact loop m0 0 n ys s₀ s2 σ H2 hn w0 ⟨acc0, cc0, r0, I2⟩ st2 fun b hb => (f2 b hb).1
end
end G
/-! GL22: the steps within a generator; list(o.m()) of one. Own work. -/
namespace G
open PySem PySem.Spec PyProof.Rows L2

/-- what is out so far -/
def rGh (qs : List R) (ys : List V) : R := ⟨fun B v => v = .non ∧ AllR B qs ys, fun e h => ⟨h.1, AllR.mono e h.2⟩⟩
def gstk (t : TGn) (D : GEnds) (ys : List V) : KK := fun σ _ H => t D ys σ H
def gnx (D : GEnds) (ys : List V) : KK := fun σ _ H => D.nx ys σ H
def Gn (u : TGn) (D : GEnds) : GEnds := { D with nx := fun ys' σ' H' => u D ys' σ' H' }
def gDl (N : List V → L2.St → Hp → Prop) (D : GEnds) : GEnds := { D with nx := N, ct := N, bk := D.nx }
def gtk (g : TG) (tb : TGn) (D : GEnds) (ys : List V) : KK := fun σ vs H => match vs with
  | v :: _ => g v σ H fun σ2 H2 => tb D ys σ2 H2
  | [] => False
def yldk (D : GEnds) (ys : List V) : KK := fun σ vs H => match vs with
  | x :: _ => D.nx (ys ++ [x]) σ H
  | [] => False
def gifk (t u : TGn) (D : GEnds) (ys : List V) (b : Bool) : KK := fun σ _ H => if b = true then t D ys σ H else u D ys σ H
def gfork (F : PySem.W.Frag) (g : TG) (tb : TGn) (D : GEnds) (ys : List V) : KK := fun σ vs H => match vs with
  | x :: _ => ∃ a, x = .ref a ∧ (∃ xs, SqL F H a xs) ∧ ∃ W : Nat → Nat → List V → L2.St → Hp → Prop, (∃ m, W 0 m ys σ H) ∧ ∀ i m ys σ H, W i m ys σ H →
      ((Itl F a).stop i H ∧ D.nx ys σ H) ∨ ((Itl F a).go i H ∧ ∃ N : List V → L2.St → Hp → Prop, (∀ ys' σ' H', N ys' σ' H' → ∃ m', m' < m ∧ W (i + 1) m' ys' σ' H') ∧ ∀ x H', (Itl F a).yld i H x H' → g x σ H' fun σ2 H2 => tb { D with nx := N, ct := N, bk := D.nx } ys σ2 H2)
  | [] => False
section
variable {L : Lk} {rs rs' : List (Option R)} {st : List R} {os fr : List Own} {K : KK} {D : GEnds} {F : PySem.W.Frag} {t u tb : TGn} {ts : TS} {tc : TT} {te : TE} {g : TG} {ys : List V} {q q0 : R} {qs : List R} {i : Nat}
theorem g_then (h : Gk L rs st os (gstk t (Gn u D) ys)) : Gk L rs st os (gstk (tGThen t u) D ys) := h
theorem g_nxD (h : Gk L rs st os (gstk u D ys)) : Gk L rs st os (gnx (Gn u D) ys) := h
theorem g_0 (h : Gk L rs st os (gnx D ys)) : Gk L rs st os (gstk tG0 D ys) := h
theorem g_plain (h : Gk L rs st os (stk ts (D.at ys))) : Gk L rs st os (gstk (tPlain ts) D ys) := h
theorem g_at (h : Gk L rs st os (gnx D ys)) : Gk L rs st os (nxk (D.at ys)) := h
theorem g_if (h : Gk L rs st os (tk tc (gifk t u D ys))) : Gk L rs st os (gstk (tGIf tc t u) D ys) := h
theorem g_if2 {b : Bool} (h1 : b = true → Gk L rs st os (gstk t D ys)) (h2 : b = false → Gk L rs st os (gstk u D ys)) : Gk L rs st os (gifk t u D ys b) := fun σ vs H s => by
  cases b with
  | true => show (if true = true then _ else _); rw [if_pos rfl]; exact h1 rfl σ vs H s
  | false => show (if false = true then _ else _); rw [if_neg Bool.false_ne_true]; exact h2 rfl σ vs H s
theorem g_yield (hn : ys.length ≤ 100000) (h : Gk L rs st os (evk te (yldk D ys))) : Gk L rs st os (gstk (tGYield te) D ys) := fun σ vs H s => by
  have z := h σ vs H s
  have big : (100000 : Nat) < sizeLine := by rw [sizeLine_eq]; decide
  exact ⟨by omega, z⟩
theorem g_yldk (h : ∀ x, Gk L rs (rGh (qs ++ [q]) (ys ++ [x]) :: st) os (gnx D (ys ++ [x]))) : Gk L rs (q :: rGh qs ys :: st) os (yldk D ys) := fun σ vs H s => by
  obtain ⟨B, hs, c, ho, hr, hst⟩ := s
  cases hst with
  | @cons _ x _ _ h1 h2 =>
    cases h2 with
    | @cons _ y _ t h3 h4 => exact h x σ (.non :: t) H ⟨B, hs, c, ho, hr, .cons ⟨rfl, papp h3.2 (.cons h1 .nil)⟩ h4⟩
theorem gh_len {σ : L2.St} {vs : List V} {H : Hp} (s : S L rs (rGh qs ys :: st) os σ vs H) : ys.length = qs.length := by
  obtain ⟨B, hs, c, ho, hr, hst⟩ := s
  cases hst with
  | cons h1 h2 => exact (AllR.len h1.2).symm
/-- the number of items that are out is known -/
theorem g_len (h : ys.length = qs.length → Gk L rs (rGh qs ys :: st) os K) : Gk L rs (rGh qs ys :: st) os K := fun σ vs H s => h (gh_len s) σ vs H s
theorem g_tgn [sr : SetR rs i (some q) rs'] (h : Gk L rs' st os (gstk tb D ys)) : Gk L rs (q :: st) os (gtk (gName i) tb D ys) := fun σ vs H s => by
  obtain ⟨B, hs, c, ho, hr, hst⟩ := s
  cases hst with
  | @cons _ x _ t h1 h2 =>
    refine h _ t H ⟨B, hs, c, ho, ?_, h2⟩
    rw [← sr.e]
    exact pset (F := slotOk B) (a := some q) (b := some x) ⟨x, rfl, h1⟩ i hr
theorem g_for (h : Gk L rs st os (evk te (gfork F g tb D ys))) : Gk L rs st os (gstk (tGFor (iList F te) g tb) D ys) := h
theorem g_forL {ps : List R} [sl : StL F q0 ps] {T : Type} (J : Nat → T → Prop) (rsF : T → List (Option R)) (osF : T → List Own) (qsF : T → List R) (s0 : T) (h0 : J 0 s0) (l0 : Le rs (rsF s0)) (o0 : os = osF s0) (e0 : qs = qsF s0)
    (turn : ∀ (i : Nat) (q gh : R) (s : T) (ys : List V) (N : List V → L2.St → Hp → Prop), ps[i]? = some q → J i s → (∀ s' ys', J (i + 1) s' → Gk L (rsF s') (rGh (qsF s') ys' :: gh :: st) (osF s') (fun σ _ H => N ys' σ H)) → Gk L (rsF s) (q :: rGh (qsF s) ys :: gh :: st) (osF s) (gtk g tb (gDl N D) ys))
    (done : ∀ s ys, J ps.length s → Gk L (rsF s) (rGh (qsF s) ys :: st) (osF s) (gnx D ys)) : Gk L rs (q0 :: rGh qs ys :: st) os (gfork F g tb D ys) := fun σ vs H s => by
  obtain ⟨B, hs, c, ho, hr, hst⟩ := s
  cases hst with
  | @cons _ x _ vs h1 h2 =>
    obtain ⟨a, ws, rfl, hl, hw⟩ := sl.get h1
    have elen : ps.length = ws.length := AllR.len hw
    cases h2 with
    | @cons _ y _ vs h2 h3 =>
      refine ⟨a, rfl, ⟨ws, c.sqL hl⟩, fun i m ys σ H => m = ps.length - i ∧ i ≤ ps.length ∧ ∃ s vs', J i s ∧ S L (rsF s) (rGh (qsF s) ys :: rLv F a ws ps :: st) (osF s) σ vs' H, ⟨_, rfl, Nat.zero_le _, s0, .non :: .non :: vs, h0, B, hs, c, by rw [← o0]; exact ho, l0.ok hr, .cons ⟨rfl, by rw [← e0]; exact h2.2⟩ (.cons ⟨rfl, hl, hw⟩ h3)⟩, ?_⟩
      rintro i m ys σ H ⟨rfl, hi, s, vs', j, B, hs, c, ho, hr, hst⟩
      cases hst with
      | @cons _ v1 _ _ k1 k2 =>
        cases k2 with
        | @cons _ v2 _ vt k2 k3 =>
          by_cases hlt : i < ps.length
          · refine .inr ⟨⟨ws, ws[i]'(by omega), c.sqL k2.2.1, by simp⟩, fun ys' σ H => ∃ s vs', J (i + 1) s ∧ S L (rsF s) (rGh (qsF s) ys' :: rLv F a ws ps :: st) (osF s) σ vs' H, fun ys' σ' H' ⟨s', vs'', j', z⟩ => ⟨_, by omega, rfl, by omega, s', vs'', j', z⟩, fun x H' y => ?_⟩
            obtain ⟨rfl, y⟩ := y
            have e := y ws (c.sqL k2.2.1)
            obtain ⟨v, hv, hq⟩ := pget k2.2.2 (List.getElem?_eq_getElem hlt)
            rw [e] at hv; cases hv
            exact turn i _ (rLv F a ws ps) s ys _ (List.getElem?_eq_getElem hlt) j (fun s' ys' j' σ vs H z => ⟨s', vs, j', z⟩) σ (_ :: v1 :: v2 :: vt) H' ⟨B, hs, c, ho, hr, .cons hq (.cons k1 (.cons k2 k3))⟩
          · have e : i = ps.length := by omega
            subst e
            exact .inl ⟨⟨ws, c.sqL k2.2.1, by omega⟩, done s ys j σ (v1 :: vt) H ⟨B, hs, c, ho, hr, .cons k1 k3⟩⟩
end
end G
/-! GL23: generator methods by contract. Own work. -/
namespace G
open PySem PySem.Spec PyProof.Rows L2 C8

/-- a contract of a generator: qs is what is handed out -/
def FnG (c : Ct) (qs : c.δ → c.ε → List R) : SpG := fun vs H Q _ => ∃ (d : c.δ) (L : Lk) (B : Hp) (hs gs : List Hp), c.ok d ∧ Cur L B (hs ++ gs) H ∧ Paired (fun O h => Own.p O B h) (c.own d) hs ∧ AllR B (c.pre d) vs ∧
  ∀ (e : c.ε) (ys : List V) (H' B' : Hp) (hs' : List Hp), c.post d e → Ex B B' → Cur L B' (hs' ++ gs) H' → Paired (fun O h => Own.p O B' h) (c.out d e) hs' → AllR B' (qs d e) ys → Q ys H'
abbrev GD0 (Q : List V → Hp → Prop) : GEnds := { nx := fun ys _ H' => Q ys H', rt := fun ys v H' => v = .non ∧ Q ys H' }
def RetG (L : Lk) (c : Ct) (qs : c.δ → c.ε → List R) (d : c.δ) (g : R) (fr : List Own) (Q : List V → Hp → Prop) : Prop := ∀ (e : c.ε) (rs : List (Option R)) (σ : L2.St) (ys vs : List V) (H' : Hp), c.post d e → S L rs [rGh (qs d e) ys, g] (c.out d e ++ fr) σ vs H' → Q ys H'
def OwesG (c : Ct) (qs : c.δ → c.ε → List R) (N : List Str) (t : TGn) : Prop := ∀ (d : c.δ) (L : Lk) (g : R) (fr : List Own) (Q : List V → Hp → Prop), c.ok d → RetG L c qs d g fr Q → Gk L (slots N (c.pre d)) [rGh [] [], g] (c.own d ++ fr) (gstk t (GD0 Q) [])
theorem bodyG {c : Ct} {qs : c.δ → c.ε → List R} {t : TGn} {N : List Str} {vs : List V} {H : Hp} {Q : List V → Hp → Prop} {E : XK} (h : FnG c qs vs H Q E) (hb : OwesG c qs N t) : t (GD0 Q) [] (L2.start N vs) H := by
  obtain ⟨d, L, B, hs, gs, hok, cu, ho, hp, hQ⟩ := h
  have eqs : ∀ gs : List Hp, Paired (fun O h => Own.p O B h) (gs.map oEq) gs := fun gs => by
    induction gs with
    | nil => exact .nil
    | cons g r ih => exact .cons rfl ih
  have s : S L (slots N (c.pre d)) [rGh [] [], rEx B] (c.own d ++ gs.map oEq) (start N vs) [.non, .non] H := ⟨B, hs ++ gs, cu, papp ho (eqs gs), start_paired hp, .cons ⟨rfl, .nil⟩ (.cons ⟨rfl, Ex.refl B⟩ .nil)⟩
  refine hb d L (rEx B) (gs.map oEq) Q hok (fun e rs σ ys vs H' he s' => ?_) (L2.start N vs) [.non, .non] H s
  obtain ⟨B', ks, cu', ho', _, hst⟩ := s'
  obtain ⟨k1, k2, rfl, q1, q2⟩ := psplit ho'
  have same : ∀ (gs k : List Hp), Paired (fun O h => Own.p O B' h) (gs.map oEq) k → k = gs := fun gs => by
    induction gs with
    | nil => intro k hk; cases hk; rfl
    | cons g r ih =>
      intro k hk
      cases hk with
      | cons h1 h2 => rw [h1, ih _ h2]
  have ek := same gs k2 q2
  subst ek
  cases hst with
  | cons h1 h2 =>
    cases h2 with
    | cons h3 h4 => exact hQ e ys H' B' k1 he h3.2 cu' q1 h1.2
structure MetG (P : Program) (w : World) (K : PySem.W.Frag) (mg : Str → Option Value) (base : Heap) (k : Nat) (C : Addr) (m : Str) (sp : SpG) : Prop where
  ex : ∃ (f : Addr) (fd : FuncData) (ps : List Str), Cls K C ∧ Meth K C m f ∧ GFn P w K mg base k f fd ps sp ∧ Binds K fd ps []
section
variable {P : Program} {w : World} {K : PySem.W.Frag} {mg : Str → Option Value} {base : Heap}
theorem genD {m qual : Str} {C : Addr} {st : Stmt} {N ps : List Str} {k : Nat} {c : Ct} {qs : c.δ → c.ε → List R} (hc : Cls K C) (me : Meth K C m (He.ma K C m)) (F : FnAt K m qual st (He.ma K C m)) (S : GScope N ps (defScope st)) (hb : BindOk m qual st ps) (hp : ∀ d, (c.pre d).length = ps.length)
    (hbody : ∀ (cdv : Value) (A : Around) (outer : List Env) (s : Shared) (H : Hp) (E : XK) (pn : List (Addr × Obj)), Room k (A.deeper (envOfC qual (defScope st) s.heap.objs.size (He.ma K C m) cdv)) →
      ∃ t, GSs (gcxOf P w K mg base N qual (defScope st) (He.ma K C m) cdv A outer s H E pn) (defBody st) t ∧ OwesG c qs N t) : MetG P w K mg base (k + 1) C m (FnG c qs) := by
  obtain ⟨fd, F⟩ := F
  have B := F.bindsN hb
  obtain ⟨oc, od, dV, kV, doc, pm, an, cdv, ct, osl, rfl, lk, hcd, _, _⟩ := F.ex
  refine ⟨_, _, ps, hc, me, gfn_of (sp := FnG c qs) lk hcd S (fun vs H Q E h => ?_) fun A outer s H vs Q E pn hr h => ?_, B⟩
  · obtain ⟨d, _, _, _, _, _, _, _, h1, _⟩ := h
    rw [← AllR.len h1]; exact hp d
  · obtain ⟨t, h1, h2⟩ := hbody cdv A outer s H E pn hr
    exact ⟨t, h1, bodyG h h2⟩
end
section
variable {X : Cx} {j k : Nat} {C : Addr} {m : Str} {sp : SpG} {o : Expr} {ta : TE} {p apos pos' pos : Pos}
theorem pe_listGm {pl : Sem Bool} (c : MetG X.prog X.w X.K X.mg X.base k C m sp) (hr : Room j X.A) (hk : k + 3 ≤ j) (hg : Gl X "list") (hm : X.mg "list" = none) (he : PE X o ta)
    (ht : eval (.Call (.Attribute o m apos) [] [] pos') X.env = (do
      let ov ← eval o X.env
      standAt apos.atName
      let (f, first) ← holding [ov] (getMethod ov m pl)
      callWith pos' f first (backTo pos' (starEach [] X.env)) (backToKw pos' (keywordEach [] X.env))) := by rfl) :
    PE X (.Call (.Name "list" p) [.Call (.Attribute o m apos) [] [] pos'] [] pos) (tListG (tMethG C m sp [] C8.E0 ta tNil)) := by
  obtain ⟨f, fd, ps, hc, me, F, b⟩ := c.ex
  have hr3 := hr.mono hk
  refine pe_listG (k := k) (pgen_meth0 (pl := pl) he hc me F (hr3.mono (by omega)) b .nil ht) (fun pins σ H s e s' I h => ?_) (fun _ _ _ z => z.elim) hr3 hg hm (by decide +kernel)
  obtain ⟨_, _, _, _, _, _, _, _, _, _, _, _, z⟩ := h
  exact z.elim
end
section
variable {L : Lk} {rs : List (Option R)} {st : List R} {os fr : List Own} {K : KK} {c : Ct} {qs : c.δ → c.ε → List R} {q0 : R} {C : Addr} {m : Str} {fl : List (Str × R)} {ta : TE} {d : c.δ} {g : R} {Q : List V → Hp → Prop}
def lgk (C : Addr) (m : Str) (sp : SpG) (K : KK) : KK := fun σ vs H => match vs with
  | x :: t => ∃ a dx fs, x = .ref a ∧ H a = some (.ins C dx fs) ∧ fs.lookup m = none ∧ sp [x] H (fun out H2 => ∀ p, H2 p = none → K σ (.ref p :: t) (upd H2 p (.lst out))) C8.E0
  | [] => False
theorem k_listG0 {sp : SpG} (h : Gk L rs st os (evk ta (lgk C m sp K))) : Gk L rs st os (evk (tListG (tMethG C m sp [] C8.E0 ta tNil)) K) := h
theorem k_listG [r : InR os q0 C fl] (hl : fl.lookup m = none) (d : c.δ) (ho : os = c.own d ++ fr) (hp : [q0] = c.pre d) (hok : c.ok d) (h : ∀ e, c.post d e → Gk L rs (rLs (qs d e) :: st) (c.out d e ++ fr) K) : Gk L rs (q0 :: st) os (lgk C m (FnG c qs) K) := fun σ vs H s => by
  subst ho
  obtain ⟨B, hs, cu, ho, hr, hst⟩ := s
  cases hst with
  | @cons _ x _ t h1 h2 =>
    obtain ⟨a, dx, fs, rfl, hx, hf⟩ := r.get cu ho h1
    obtain ⟨h1s, gs, rfl, ho1, ho2⟩ := psplit ho
    refine ⟨a, dx, fs, rfl, hx, hf.no hl, d, L, B, h1s, gs, hok, cu, ho1, by rw [← hp]; exact .cons h1 .nil, fun e ys H' B' hs' he ex cu' hout hys p hp => ?_⟩
    have ho' := papp hout (pmap ho2 fun O _ q => O.mono ex q)
    exact h e he σ _ _ (newB cu' ho' (pmap hr fun _ _ q => q.mono ex) (AllR.mono ex h2) hp ⟨p, ys, rfl, upd_same, AllR.mono (Ex.new (cu'.free hp)) hys⟩)
/-- the end of a generator's body -/
theorem g_fin {ys : List V} (hR : RetG L c qs d g fr Q) (e : c.ε) (he : c.post d e) : Gk L rs [rGh (qs d e) ys, g] (c.out d e ++ fr) (gnx (GD0 Q) ys) := fun σ vs H s => hR e rs σ ys vs H he s
end
end G
/-! GL24: properties and isinstance by contract. Own work. -/
namespace G
open PySem PySem.Spec PyProof.Rows L2 C8
structure PropC (P : Program) (w : World) (K : PySem.W.Frag) (mg : Str → Option Value) (base : Heap) (k : Nat) (C : Addr) (f : Str) (sp : Sp) : Prop where
  ex : ∃ (p g : Addr) (fd : FuncData) (ps : List Str), Cls K C ∧ PropOf K C f p g ∧ FnOk P w K mg base C8.CX0 k g fd ps sp ∧ Binds K fd ps []
/-- a property of a class: its object, its getter's text -/
def PropAt (K : PySem.W.Frag) (C : Addr) (f qual : Str) (st : Stmt) : Prop := ∃ p g : Addr, PropOf K C f p g ∧ FnAt K f qual st g
section
variable {P : Program} {w : World} {K : PySem.W.Frag} {mg : Str → Option Value} {base : Heap}
theorem propD {f qual : Str} {C : Addr} {st : Stmt} {N ps : List Str} {k : Nat} {c : Ct} (hc : Cls K C) (pr : PropAt K C f qual st) (S : FnScope N ps (defScope st)) (hb : BindOk f qual st ps) (hp : ∀ d, (c.pre d).length = ps.length)
    (hbody : ∀ (g : Addr) (cdv : Value) (A : Around) (outer : List Env) (s : Shared) (H : Hp) (E : XK), Room k (A.deeper (envOfC qual (defScope st) s.heap.objs.size g cdv)) →
      ∃ t, PSs (cxOf C8.CX0 P w K mg base N qual (defScope st) g cdv A outer s H E).nox (defBody st) t ∧ Owes c N t) : PropC P w K mg base (k + 1) C f (Fn c) := by
  obtain ⟨p, g, po, fd, F⟩ := pr
  exact ⟨p, g, fd, ps, hc, po, okD F S hp (hbody g), F.bindsN hb⟩
end
section
variable {X : Cx} {j k : Nat} {C : Addr} {f : Str} {sp : Sp} {e : Expr} {ta : TE} {pos : Pos}
theorem pe_propC (c : PropC X.prog X.w X.K X.mg X.base k C f sp) (hr : Room j X.A) (hk : k + 1 ≤ j) (he : PE X e ta) (hab : attributeBase e f X.env (eval e X.env) = eval e X.env := by rfl) : PE X (.Attribute e f pos) (tProp C sp [] C8.E0 ta) := by
  obtain ⟨p, g, fd, ps, hc, po, F, b⟩ := c.ex
  exact pe_prop he hc po F (hr.mono hk) b .nil C8.pass0 hab
end
section
variable {L : Lk} {rs : List (Option R)} {st : List R} {os fr : List Own} {K : KK} {F : PySem.W.Frag} {c : Ct} {q0 : R} {C : Addr} {fl : List (Str × R)} {ta : TE} {sp : Sp}
def prk (C : Addr) (sp : Sp) (K : KK) : KK := fun σ vs H => match vs with
  | x :: t => ∃ a dx fs, x = .ref a ∧ H a = some (.ins C dx fs) ∧ sp [x] H (fun z H' => K σ (z :: t) H') C8.E0
  | [] => False
theorem k_prop0 (h : Gk L rs st os (evk ta (prk C sp K))) : Gk L rs st os (evk (tProp C sp [] C8.E0 ta) K) := fun σ vs H s => by
  have z := h σ vs H s
  have e : (fun (x : V) (H' : Hp) => prk C sp K σ (x :: vs) H') = fun x H1 => ∃ a dx fs, x = .ref a ∧ H1 a = some (.ins C dx fs) ∧ sp (.ref a :: []) H1 (fun v H' => K σ (v :: vs) H') C8.E0 := by
    funext x H'
    apply propext
    constructor
    · rintro ⟨a, dx, fs, rfl, h1, h2⟩; exact ⟨a, dx, fs, rfl, h1, h2⟩
    · rintro ⟨a, dx, fs, rfl, h1, h2⟩; exact ⟨a, dx, fs, rfl, h1, h2⟩
  show ta σ H _
  rw [← e]
  exact z
theorem k_prop [r : InR os q0 C fl] (d : c.δ) (ho : os = c.own d ++ fr) (hp : [q0] = c.pre d) (hok : c.ok d) (h : ∀ e, c.post d e → Gk L rs (c.ret d e :: st) (c.out d e ++ fr) K) : Gk L rs (q0 :: st) os (prk C (Fn c) K) := fun σ vs H s => by
  obtain ⟨B, hs, cu, ho', hr, hst⟩ := s
  cases hst with
  | @cons _ x _ t h1 h2 =>
    obtain ⟨a, dx, fs, rfl, hx, hf⟩ := r.get cu ho' h1
    exact ⟨a, dx, fs, rfl, hx, k_callF (c := c) (E := C8.E0) (K := K) (rs := rs) (st := st) (as := [q0]) d ho hp hok h σ [.ref a] t H rfl ⟨B, hs, cu, ho', hr, .cons h1 h2⟩⟩
/-! ### isinstance -/
def rIsC (C : Addr) : List V → Hp → VK → Prop := fun xs H Q => ∃ a dx fs, xs = [.ref a, .ref C] ∧ H a = some (.ins C dx fs) ∧ Q (.bl true) H
theorem isC {X : Cx} (F : PySem.W.Frag) (c : C8.InsC F C) (h : X.K = F := by rfl) : CallR X (.builtin "isinstance") (rIsC C) := by
  subst h
  exact call_isC c
theorem k_isC [r : InR os q0 C fl] (h : Gk L rs (rB true :: st) os K) : GA L rs [q0, rV (.ref C)] st os (cbk (rIsC C) K) := fun σ us vs H hl s => by
  obtain ⟨B, hs, c, ho, hr, h1, h2⟩ := S.args hl s
  obtain ⟨v, w, rfl, e1, e2⟩ := all2 h1
  obtain ⟨a, dx, fs, rfl, hx, hf⟩ := r.get c ho e1
  exact ⟨a, dx, fs, by rw [show w = V.ref C from e2], hx, h σ _ H ⟨B, hs, c, ho, hr, .cons rfl h2⟩⟩
end
end G
/-! GL25: constants of classes. Own work. -/
namespace G
open PySem PySem.Spec PyProof.Rows L2 C8 ClX
class ClsVal (F : PySem.W.Frag) (C : Addr) (f : Str) (v : outParam V) : Prop where
  e : ∃ mc u, CRead F C mc ∧ CVal F C mc f v u
def cvalk (F : PySem.W.Frag) (f : Str) (K : KK) : KK := fun σ vs H => match vs with
  | x :: t => ∃ C mc v u, x = .ref C ∧ CRead F C mc ∧ CVal F C mc f v u ∧ K σ (v :: t) H
  | [] => False
section
variable {L : Lk} {rs : List (Option R)} {st : List R} {os : List Own} {K : KK} {F : PySem.W.Frag} {C : Addr} {f : Str} {ta : TE} {v : V}
theorem k_cval0 (h : Gk L rs st os (evk ta (cvalk F f K))) : Gk L rs st os (evk (tCVal F ta f) K) := h
theorem k_cval [i : ClsVal F C f v] (h : Gk L rs (rV v :: st) os K) : Gk L rs (rV (.ref C) :: st) os (cvalk F f K) := fun σ vs H s => by
  obtain ⟨B, hs, c, ho, hr, hst⟩ := s
  cases hst with
  | cons h1 h2 =>
    obtain ⟨mc, u, a, b⟩ := i.e
    exact ⟨C, mc, v, u, h1, a, b, h σ _ H ⟨B, hs, c, ho, hr, .cons rfl h2⟩⟩
theorem pe_cvalU {X : Cx} {e : Expr} {pos : Pos} (F : PySem.W.Frag) (he : PE X e ta) (hb : attributeBase e f X.env (eval e X.env) = eval e X.env := by rfl) (h : X.K = F := by rfl) : PE X (.Attribute e f pos) (tCVal F ta f) := h ▸ pe_cval he hb
end
end G
/-! GL26: chains of three comparisons. Own work. -/
namespace G
open PySem PySem.Spec PyProof.Rows L2 C8
/-- a op1 b op2 c op3 d -/
def tChain3 (r1 r2 r3 : R2) (ta tb tc td : TE) : TE := fun σ H Q => ta σ H fun x H1 => tb σ H1 fun y H2 => r1 x y H2 fun z H3 => ∃ k, z = .bl k ∧
  (if k = true then tc σ H3 fun w H4 => r2 y w H4 fun z2 H5 => ∃ k2, z2 = .bl k2 ∧ (if k2 = true then td σ H5 fun v H6 => r3 w v H6 Q else Q (.bl false) H5) else Q (.bl false) H3)
theorem pe_chain3 {X : Cx} {a b c d : Expr} {pos : Pos} {ta tb tc td : TE} {op1 op2 op3 : CmpOp} {r1 r2 r3 : R2} (h1 : OpR X (compareOp op1) r1) (h2 : OpR X (compareOp op2) r2) (h3 : OpR X (compareOp op3) r3) (ha : PE X a ta) (hb : PE X b tb) (hc : PE X c tc) (hd : PE X d td)
    (hm : lastMarks [op1, op2, op3] [b, c, d] = false := by with_unfolding_all rfl) : PE X (.Compare a [op1, op2, op3] [b, c, d] pos) (tChain3 r1 r2 r3 ta tb tc td) := by
  refine ⟨fun pins s σ H Q I h => ?_⟩
  refine Compare_chain (thn (ha.run pins s σ H _ I h) fun v s1 ⟨x, H1, I1, e1, q1⟩ => chain_link (thn (hb.run pins s1 σ H1 _ I1 q1) fun u s2 ⟨y, H2, I2, e2, q2⟩ => thn (h1 pins s2 σ H2 x y v u _ I2 e1 e2 q2) fun p s3 ⟨z, H3, I3, e3, k, e, q3⟩ => ?_)) hm
  subst e; cases e3
  refine wpAny_truthy_bool ?_
  cases k with
  | false => exact ite_ff ⟨.bl false, H3, I3, rfl, q3⟩
  | true =>
    refine ite_tt (chain_link (thn (hc.run pins s3 σ H3 _ I3 q3) fun w s4 ⟨z4, H4, I4, e4, q4⟩ => thn (h2 pins s4 σ H4 y z4 u w _ I4 e2 e4 q4) fun p s5 ⟨z5, H5, I5, e5, k2, e, q5⟩ => ?_))
    subst e; cases e5
    refine wpAny_truthy_bool ?_
    cases k2 with
    | false => exact ite_ff ⟨.bl false, H5, I5, rfl, q5⟩
    | true => exact ite_tt (chain_last (thn (hd.run pins s5 σ H5 _ I5 q5) fun w6 s6 ⟨z6, H6, I6, e6, q6⟩ => h3 pins s6 σ H6 z4 z6 w w6 Q I6 e4 e6 q6))
def chk3 (r2 r3 : R2) (tc td : TE) (K : KK) : KK := fun σ vs H => match vs with
  | z :: y :: t => ∃ k, z = .bl k ∧ (if k = true then evk tc (opkK r2 (chk r3 td K)) σ (y :: t) H else K σ (.bl false :: t) H)
  | _ => False
section
variable {L : Lk} {rs : List (Option R)} {st : List R} {os : List Own} {K : KK} {r1 r2 r3 r' : R2} {ta tb tc td : TE} {v : V}
theorem k_chain30 (h : Gk L rs st os (evk ta (evk tb (opkK r1 (chk3 r2 r3 tc td K))))) : Gk L rs st os (evk (tChain3 r1 r2 r3 ta tb tc td) K) := h
theorem k_ch3T (h : Gk L rs (rV v :: st) os (evk tc (opkK r2 (chk r3 td K)))) : Gk L rs (rB true :: rV v :: st) os (chk3 r2 r3 tc td K) := fun σ vs H s => by
  obtain ⟨B, hs, c, ho, hr, hst⟩ := s
  cases hst with
  | cons g1 g2 =>
    cases g2 with
    | cons g2 g3 =>
      refine ⟨true, g1, ?_⟩
      rw [if_pos rfl]
      exact h σ _ H ⟨B, hs, c, ho, hr, .cons g2 g3⟩
theorem k_chT (h : Gk L rs (rV v :: st) os (evk tc (opk r' K))) : Gk L rs (rB true :: rV v :: st) os (chk r' tc K) := fun σ vs H s => by
  obtain ⟨B, hs, c, ho, hr, hst⟩ := s
  cases hst with
  | cons g1 g2 =>
    cases g2 with
    | cons g2 g3 =>
      refine ⟨true, g1, ?_⟩
      rw [if_pos rfl]
      have q := h σ _ H ⟨B, hs, c, ho, hr, .cons g2 g3⟩
      exact q
theorem k_isNotN {v : V} (h : Gk L rs (rB (!decide (v = .non)) :: st) os K) : Gk L rs (rV .non :: rV v :: st) os (opk (fun x y H Q => y = V.non ∧ Q (V.bl !decide (x = V.non)) H) K) := k_opV (fun H Q z => ⟨rfl, z⟩) h
theorem k_isN {v : V} (h : Gk L rs (rB (decide (v = .non)) :: st) os K) : Gk L rs (rV .non :: rV v :: st) os (opk (fun x y H Q => y = V.non ∧ Q (V.bl (decide (x = V.non))) H) K) := k_opV (fun H Q z => ⟨rfl, z⟩) h
theorem k_topI {q q' : R} (i : ∀ B v, q.p B v → q'.p B v) (h : Gk L rs (q' :: st) os K) : Gk L rs (q :: st) os K := fun σ vs H s => by
  obtain ⟨B, hs, c, ho, hr, hst⟩ := s
  cases hst with
  | cons a b => exact h σ _ H ⟨B, hs, c, ho, hr, .cons (i _ _ a) b⟩
end
theorem rTp_rTk {F : PySem.W.Frag} {qs : List R} (B : Hp) (v : V) (h : (rTp qs).p B v) : (rTk F qs).p B v := by
  obtain ⟨a, vs, h1, h2, h3⟩ := h
  exact ⟨a, vs, h1, .of h2, h3⟩
end G
namespace G
open PySem PySem.Spec PyProof.Rows L2 C8
theorem getfn {K : PySem.W.Frag} {C f : Addr} {m x qual : Str} {st : Stmt} (me : Meth K C m f) (F : FnAt K x qual st f) : ∀ g, PySem.W.findIn K (.ref C) m = some (some (.ref g)) → PySem.W.fnIn K g = true := fun g h => by
  rw [me.at_] at h
  cases h
  obtain ⟨fd, F⟩ := F
  obtain ⟨oc, od, dV, kV, doc, pm, an, cdv, ct, osl, rfl, lk, _⟩ := F.ex
  unfold PySem.W.fnIn
  rw [lk]
end G
/-! DC: webs, own or finished. Own work. -/
namespace W
open PySem PySem.Spec PyProof.Rows L2 C8 G
abbrev rWRow (t : Thing) : R := rTp [rS t.mark, rTp (t.parents.map rI)]
def nums (n : Nat) : List Int := (List.range n).map fun (i : Nat) => (i : Int)
theorem nums_snoc (n : Nat) : nums (n + 1) = nums n ++ [(n : Int)] := by
  unfold nums
  rw [List.range_succ, List.map_append]; rfl
/-- a web over the rows: fz: it is finished; else its object is at x, its lists at pr and pn -/
structure WebD where
  ms : List Str
  rows : List Row
  ts : List Thing
  fz : Bool
  x : Addr
  pr : Addr
  pn : Addr
abbrev webF (K : PySem.W.Frag) (ms : List Str) (rows : List Row) (ts : List Thing) : List (Str × R) := [("shape", rShape K ms rows), ("_rows", rLs (ts.map rWRow)), ("_numbers", rLs ((nums ts.length).map rI))]
abbrev webG (K : PySem.W.Frag) (ms : List Str) (rows : List Row) (pr pn : Addr) : List (Str × R) := [("shape", rShape K ms rows), ("_rows", rA pr), ("_numbers", rA pn)]
abbrev rWeb (K : PySem.W.Frag) (ms : List Str) (rows : List Row) (ts : List Thing) : R := rIn (He.ga K "Web") (webF K ms rows ts)
def webR (K : PySem.W.Frag) (d : WebD) : R := if d.fz = true then rWeb K d.ms d.rows d.ts else rA d.x
def webO (K : PySem.W.Frag) (d : WebD) : List Own := if d.fz = true then [] else [oIn d.x (He.ga K "Web") (webG K d.ms d.rows d.pr d.pn), oLs d.pr (d.ts.map rWRow), oLs d.pn ((nums d.ts.length).map rI)]
structure WebOk (d : WebD) : Prop where
  rows : RowsOk d.ms d.rows
  things : ThingsOk d.rows d.ts
  len : d.ts.length ≤ 100 ∧ d.rows.length ≤ 6
end W
/-! DD: standings. Own work. -/
namespace W
open PySem PySem.Spec PyProof.Rows L2 C8 G
/-- a standing: the locks in their order, what is dropped -/
structure StD where
  locks : List (Int × Deed)
  dr : List Int
def modesKV (s : StD) : List (Key × R) := s.locks.map fun p => ((Sum.inl p.1 : Key), rS p.2.s)
def holdsL (s : StD) : List (Int × Deed) := s.locks.filter fun p => decide (p.1 ∉ s.dr)
def holdsKV (s : StD) : List (Key × R) := (holdsL s).map fun p => ((Sum.inl p.1 : Key), rS p.2.s)
def StD.lo (s : StD) : Bool := !s.dr.isEmpty
structure StdOk (s : StD) : Prop where
  nd : (s.locks.map Prod.fst).Nodup
  lock : ∀ p ∈ s.locks, p.2 ≠ .drop
  dr : ∀ t ∈ s.dr, t ∈ s.locks.map Prod.fst
  len : s.locks.length ≤ 1000
theorem kv_some {t : Int} : ∀ {l : List (Int × Deed)}, (valR (l.map fun p => ((Sum.inl p.1 : Key), rS p.2.s)) (Sum.inl t)).isSome = decide (t ∈ l.map Prod.fst)
  | [] => rfl
  | p :: l => by
    have ih := kv_some (t := t) (l := l)
    by_cases e : p.1 = t
    · subst e
      simp [valR]
    · have e1 : valR ((p :: l).map fun p => ((Sum.inl p.1 : Key), rS p.2.s)) (Sum.inl t) = valR (l.map fun p => ((Sum.inl p.1 : Key), rS p.2.s)) (Sum.inl t) := by simp [valR, e]
      have e2 : ¬ t = p.1 := fun q => e q.symm
      rw [e1, ih, List.map_cons]
      simp only [List.mem_cons, e2, false_or]
theorem kv_put {l : List (Int × Deed)} {t : Int} {d : Deed} (h : t ∉ l.map Prod.fst) : putKR (l.map fun p => ((Sum.inl p.1 : Key), rS p.2.s)) (Sum.inl t) (rS d.s) = (l ++ [(t, d)]).map fun p => ((Sum.inl p.1 : Key), rS p.2.s) := by
  rw [putKR_new]
  · rw [List.map_append]; rfl
  · intro p hp e
    obtain ⟨x, hx, rfl⟩ := List.mem_map.mp hp
    exact h (List.mem_map.mpr ⟨x, hx, Sum.inl.inj e⟩)
theorem kv_drop {l : List (Int × Deed)} {t : Int} : dropKR (l.map fun p => ((Sum.inl p.1 : Key), rS p.2.s)) (Sum.inl t) = (l.filter fun p => decide (p.1 ≠ t)).map fun p => ((Sum.inl p.1 : Key), rS p.2.s) := by
  unfold dropKR
  induction l with
  | nil => rfl
  | cons p l ih =>
    by_cases e : p.1 = t
    · simp [e] at ih ⊢
      exact ih
    · simp [e] at ih ⊢
      exact ih
abbrev standG (K : PySem.W.Frag) (ms : List Str) (rows : List Row) (ts : List Thing) (pm ph : Addr) (lo : Bool) : List (Str × R) := [("web", rWeb K ms rows ts), ("_modes", rA pm), ("_holds", rA ph), ("_loose", rB lo)]
/-- a standing at x, its dicts at pm and ph -/
structure StA where
  ms : List Str
  rows : List Row
  ts : List Thing
  st : StD
  x : Addr
  pm : Addr
  ph : Addr
abbrev stO (K : PySem.W.Frag) (d : StA) : List Own := [oIn d.x (He.ga K "Standing") (standG K d.ms d.rows d.ts d.pm d.ph d.st.lo), oDk d.pm (modesKV d.st), oDk d.ph (holdsKV d.st)]
abbrev rStand (K : PySem.W.Frag) (ms : List Str) (rows : List Row) (ts : List Thing) (s : StD) : R := rIn (He.ga K "Standing") [("web", rWeb K ms rows ts), ("_modes", rDk (modesKV s)), ("_holds", rDk (holdsKV s)), ("_loose", rB s.lo)]
/-- a step that a standing lets -/
structure StepOk (ts : List Thing) (s : StD) (p : Step) : Prop where
  thing : 0 ≤ p.thing ∧ p.thing < ts.length
  drop : p.deed = .drop → p.thing ∈ (holdsL s).map Prod.fst
  lock : p.deed ≠ .drop → p.thing ∉ s.locks.map Prod.fst
  share : p.deed = .share → (ts.getD p.thing.toNat default).shared = true
end W
/-! DE: what the events leave: names, standings, lockers, edges, reads. Own work. -/
namespace W
open PySem PySem.Spec PyProof.Rows L2 C8 G

/-! ### dicts from numbers -/
def kvOf (ks : List Int) (f : Int → R) : List (Key × R) := ks.map fun k => ((Sum.inl k : Key), f k)
theorem kvOf_congr {ks : List Int} {f g : Int → R} (h : ∀ k ∈ ks, f k = g k) : kvOf ks f = kvOf ks g := by
  unfold kvOf
  exact List.map_congr_left fun k hk => by rw [h k hk]
theorem kvOf_val {f : Int → R} {t : Int} : ∀ {ks : List Int}, valR (kvOf ks f) (Sum.inl t) = if t ∈ ks then some (f t) else none
  | [] => rfl
  | k :: ks => by
    have ih := kvOf_val (f := f) (t := t) (ks := ks)
    by_cases e : k = t
    · subst e
      simp [valR, kvOf]
    · have e1 : valR (kvOf (k :: ks) f) (Sum.inl t) = valR (kvOf ks f) (Sum.inl t) := by simp [valR, kvOf, e]
      have e2 : ¬ t = k := fun q => e q.symm
      rw [e1, ih]
      simp [e2]
theorem kvOf_len {ks : List Int} {f : Int → R} : (kvOf ks f).length = ks.length := by unfold kvOf; simp
def addN (l : List Int) (n : Int) : List Int := if n ∈ l then l else l ++ [n]
theorem mem_addN {l : List Int} {n m : Int} : m ∈ addN l n ↔ m ∈ l ∨ m = n := by
  unfold addN
  split
  · rename_i h
    constructor
    · exact Or.inl
    · rintro (q | rfl)
      · exact q
      · exact h
  · simp
theorem addN_nodup {l : List Int} {n : Int} (h : l.Nodup) : (addN l n).Nodup := by
  unfold addN
  split
  · exact h
  · rename_i z
    rw [List.nodup_append]
    exact ⟨h, by simp, fun a ha b hb e => z (by rw [← (List.mem_singleton.mp hb), ← e]; exact ha)⟩
theorem addN_len {l : List Int} {n : Int} : (addN l n).length ≤ l.length + 1 := by
  unfold addN
  split
  · omega
  · simp
theorem kvOf_put {ks : List Int} {f : Int → R} {t : Int} {q : R} : putKR (kvOf ks f) (Sum.inl t) q = kvOf (addN ks t) (fun k => if k = t then q else f k) := by
  unfold addN
  split
  · rename_i h
    unfold putKR
    rw [if_pos]
    · unfold kvOf
      rw [List.map_map]
      refine List.map_congr_left fun k _ => ?_
      by_cases e : k = t
      · simp [e]
      · simp [e]
    · unfold kvOf
      simp only [List.any_map, List.any_eq_true]
      exact ⟨t, h, by simp⟩
  · rename_i h
    rw [putKR_new]
    · unfold kvOf
      rw [List.map_append]
      congr 1
      · refine List.map_congr_left fun k hk => ?_
        have e : k ≠ t := fun e => h (e ▸ hk)
        simp [e]
      · simp
    · intro p hp e
      unfold kvOf at hp
      obtain ⟨x, hx, rfl⟩ := List.mem_map.mp hp
      exact h (Sum.inl.inj e ▸ hx)

theorem modes_some {s : StD} {t : Int} : (valR (modesKV s) (Sum.inl t)).isSome = decide (t ∈ s.locks.map Prod.fst) := kv_some
theorem holds_some {s : StD} {t : Int} : (valR (holdsKV s) (Sum.inl t)).isSome = decide (t ∈ (holdsL s).map Prod.fst) := kv_some
def takeS (s : StD) (p : Step) : StD := if p.deed = .drop then ⟨s.locks, s.dr ++ [p.thing]⟩ else ⟨s.locks ++ [(p.thing, p.deed)], s.dr⟩
theorem modesKV_len {s : StD} (o : StdOk s) : (modesKV s).length ≤ 10000 := by
  unfold modesKV; rw [List.length_map]; have := o.len; omega
theorem holdsKV_len {s : StD} (o : StdOk s) : (holdsKV s).length ≤ 10000 := by
  unfold holdsKV holdsL; rw [List.length_map]
  have := o.len
  have := List.length_filter_le (fun p : Int × Deed => decide (p.1 ∉ s.dr)) s.locks
  omega
theorem take_drop {s : StD} {t : Int} : dropKR (holdsKV s) (Sum.inl t) = holdsKV (takeS s ⟨.drop, t⟩) := by
  unfold holdsKV
  rw [kv_drop]
  congr 1
  unfold holdsL takeS
  rw [if_pos rfl, List.filter_filter]
  refine List.filter_congr fun p _ => ?_
  simp only [List.mem_append, List.mem_singleton, not_or, Bool.decide_and, ne_eq]
  exact Bool.and_comm _ _
theorem take_modes {s : StD} {t : Int} {d : Deed} (h : d ≠ .drop) (n : t ∉ s.locks.map Prod.fst) : putKR (modesKV s) (Sum.inl t) (rS d.s) = modesKV (takeS s ⟨d, t⟩) := by
  unfold modesKV takeS
  rw [if_neg h, kv_put n]
theorem take_holds {s : StD} {t : Int} {d : Deed} (o : StdOk s) (h : d ≠ .drop) (n : t ∉ s.locks.map Prod.fst) : putKR (holdsKV s) (Sum.inl t) (rS d.s) = holdsKV (takeS s ⟨d, t⟩) := by
  unfold holdsKV
  rw [kv_put (fun hm => n ?_)]
  · congr 1
    unfold holdsL takeS
    rw [if_neg h, List.filter_append]
    have : t ∉ s.dr := fun q => n (o.dr t q)
    simp [this]
  · obtain ⟨p, hp, rfl⟩ := List.mem_map.mp hm
    exact List.mem_map.mpr ⟨p, (List.mem_filter.mp hp).1, rfl⟩
theorem take_lo_drop {s : StD} {t : Int} : (takeS s ⟨.drop, t⟩).lo = true := by
  unfold takeS StD.lo
  rw [if_pos rfl]; simp
theorem take_lo_lock {s : StD} {t : Int} {d : Deed} (h : d ≠ .drop) : (takeS s ⟨d, t⟩).lo = s.lo := by
  unfold takeS StD.lo
  rw [if_neg h]

/-! ### names -/
def isLk (e : Ev) : Bool := decide (e.step.deed ≠ .drop)
theorem isLk_iff {e : Ev} : isLk e = true ↔ e.step.deed ≠ .drop := by unfold isLk; simp
def namesOf (evs : List Ev) : List Int := evs.foldl (fun l e => addN l e.name) []
theorem namesOf_snoc (evs : List Ev) (e : Ev) : namesOf (evs ++ [e]) = addN (namesOf evs) e.name := by
  unfold namesOf; rw [List.foldl_append]; rfl
/-- induction from behind -/
theorem snoc_ind {α : Type} {P : List α → Prop} (h0 : P []) (hs : ∀ l x, P l → P (l ++ [x])) (l : List α) : P l := by
  have : ∀ n (l : List α), l.length = n → P l := by
    intro n
    induction n with
    | zero => intro l hl; rw [List.length_eq_zero_iff.mp hl]; exact h0
    | succ n ih =>
      intro l hl
      have hne : l ≠ [] := fun e => by rw [e] at hl; cases hl
      rw [← List.dropLast_concat_getLast hne]
      exact hs _ _ (ih _ (by rw [List.length_dropLast]; omega))
  exact this _ l rfl
theorem mem_namesOf {n : Int} (evs : List Ev) : n ∈ namesOf evs ↔ ∃ e ∈ evs, e.name = n := by
  induction evs using snoc_ind with
  | h0 => simp [namesOf]
  | hs l x ih =>
    rw [namesOf_snoc, mem_addN, ih]
    constructor
    · rintro (⟨e, h1, h2⟩ | rfl)
      · exact ⟨e, List.mem_append_left _ h1, h2⟩
      · exact ⟨x, by simp, rfl⟩
    · rintro ⟨e, h1, h2⟩
      rcases List.mem_append.mp h1 with h1 | h1
      · exact .inl ⟨e, h1, h2⟩
      · rw [List.mem_singleton.mp h1] at h2; exact .inr h2.symm
theorem namesOf_nodup (evs : List Ev) : (namesOf evs).Nodup := by
  induction evs using snoc_ind with
  | h0 => simp [namesOf]
  | hs l x ih => rw [namesOf_snoc]; exact addN_nodup ih
theorem namesOf_len (evs : List Ev) : (namesOf evs).length ≤ evs.length := by
  induction evs using snoc_ind with
  | h0 => simp [namesOf]
  | hs l x ih =>
    rw [namesOf_snoc, List.length_append, List.length_singleton]
    have := addN_len (l := namesOf l) (n := x.name)
    omega

/-! ### standings -/
def stOf (evs : List Ev) (n : Int) : StD := ⟨(evs.filter fun e => decide (e.name = n) && isLk e).map fun e => (e.step.thing, e.step.deed), (evs.filter fun e => decide (e.name = n) && !isLk e).map fun e => e.step.thing⟩
theorem stOf_lock {evs : List Ev} {e : Ev} (h : isLk e = true) : stOf (evs ++ [e]) e.name = ⟨(stOf evs e.name).locks ++ [(e.step.thing, e.step.deed)], (stOf evs e.name).dr⟩ := by
  unfold stOf
  simp [List.filter_append, h]
theorem stOf_drop {evs : List Ev} {e : Ev} (h : isLk e = false) : stOf (evs ++ [e]) e.name = ⟨(stOf evs e.name).locks, (stOf evs e.name).dr ++ [e.step.thing]⟩ := by
  unfold stOf
  simp [List.filter_append, h]
theorem stOf_other {evs : List Ev} {e : Ev} {n : Int} (h : n ≠ e.name) : stOf (evs ++ [e]) n = stOf evs n := by
  unfold stOf
  have h' : ¬ e.name = n := fun q => h q.symm
  simp [List.filter_append, h']
theorem stOf_none {evs : List Ev} {n : Int} (h : n ∉ namesOf evs) : stOf evs n = ⟨[], []⟩ := by
  have h' : ∀ e ∈ evs, ¬ e.name = n := fun e he q => h ((mem_namesOf evs).mpr ⟨e, he, q⟩)
  unfold stOf
  rw [List.filter_eq_nil_iff.mpr (fun e he => by simp [h' e he]), List.filter_eq_nil_iff.mpr (fun e he => by simp [h' e he])]
  rfl
/-- what a thing is for a program: by the events and by its standing -/
inductive StAt (s : StD) (t : Int) (v : Int) : Prop where
  | none : v = 0 → t ∉ s.locks.map Prod.fst → t ∉ s.dr → StAt s t v
  | held (d : Deed) : (t, d) ∈ s.locks → t ∉ s.dr → (d = .own ∧ v = 1 ∨ d = .share ∧ v = 2) → StAt s t v
  | gone (d : Deed) : (t, d) ∈ s.locks → t ∈ s.dr → 2 < v → StAt s t v
theorem run_st {ts : List Thing} {evs : List Ev} (r : Run ts evs) (n t : Int) : StAt (stOf evs n) t (stF evs n t) := by
  induction r with
  | nil => exact .none rfl (by simp [stOf]) (by simp [stOf])
  | @snoc evs e r l ih =>
    by_cases hn : n = e.name
    · subst hn
      rw [stF_snoc]
      unfold stOp
      by_cases ht : e.step.thing = t
      · subst ht
        rw [if_pos ⟨rfl, rfl⟩]
        cases hd : e.step.deed with
        | drop =>
          have hk : isLk e = false := by unfold isLk; rw [hd]; rfl
          rw [stOf_drop hk]
          have := l.drop hd
          cases ih with
          | none h1 h2 h3 => omega
          | gone d h1 h2 h3 => omega
          | held d h1 h2 h3 => exact .gone d h1 (by simp) (by show 2 < _ + 2; omega)
        | own =>
          have hk : isLk e = true := by unfold isLk; rw [hd]; rfl
          rw [stOf_lock hk]
          have := l.lock (by rw [hd]; exact fun h => nomatch h)
          cases ih with
          | none h1 h2 h3 => exact .held .own (by simp [hd]) h3 (.inl ⟨rfl, rfl⟩)
          | gone d h1 h2 h3 => omega
          | held d h1 h2 h3 => omega
        | share =>
          have hk : isLk e = true := by unfold isLk; rw [hd]; rfl
          rw [stOf_lock hk]
          have := l.lock (by rw [hd]; exact fun h => nomatch h)
          cases ih with
          | none h1 h2 h3 => exact .held .share (by simp [hd]) h3 (.inr ⟨rfl, rfl⟩)
          | gone d h1 h2 h3 => omega
          | held d h1 h2 h3 => omega
      · rw [if_neg (fun q => ht q.2)]
        have ht' : ¬ t = e.step.thing := fun q => ht q.symm
        cases hk : isLk e with
        | true =>
          rw [stOf_lock hk]
          cases ih with
          | none h1 h2 h3 => exact .none h1 (by rw [List.map_append]; simp only [List.mem_append, not_or]; exact ⟨h2, by simp [ht']⟩) h3
          | held d h1 h2 h3 => exact .held d (List.mem_append_left _ h1) h2 h3
          | gone d h1 h2 h3 => exact .gone d (List.mem_append_left _ h1) h2 h3
        | false =>
          rw [stOf_drop hk]
          cases ih with
          | none h1 h2 h3 => exact .none h1 h2 (by simp [h3, ht'])
          | held d h1 h2 h3 => exact .held d h1 (by simp [h2, ht']) h3
          | gone d h1 h2 h3 => exact .gone d h1 (List.mem_append_left _ h2) h3
    · rw [stOf_other hn, stF_snoc]
      unfold stOp
      rw [if_neg (fun q => hn q.1.symm)]
      exact ih
theorem run_std {ts : List Thing} {evs : List Ev} (r : Run ts evs) (hl : evs.length ≤ 1000) (n : Int) : StdOk (stOf evs n) := by
  have hlen : (stOf evs n).locks.length ≤ 1000 := by
    unfold stOf
    rw [List.length_map]
    exact Nat.le_trans (List.length_filter_le _ _) hl
  have hlk : ∀ p ∈ (stOf evs n).locks, p.2 ≠ .drop := fun p hp => by
    unfold stOf at hp
    obtain ⟨e, he, rfl⟩ := List.mem_map.mp hp
    have := (List.mem_filter.mp he).2
    simp only [Bool.and_eq_true] at this
    exact isLk_iff.mp this.2
  refine ⟨?_, hlk, fun t ht => ?_, hlen⟩
  · clear hlen hlk hl
    induction r with
    | nil => simp [stOf]
    | @snoc evs e r l ih =>
      by_cases hn : n = e.name
      · subst hn
        cases hk : isLk e with
        | true =>
          rw [stOf_lock hk, List.map_append, List.nodup_append]
          have := l.lock (isLk_iff.mp hk)
          refine ⟨ih, by simp, fun a ha b hb q => ?_⟩
          rw [List.map_singleton, List.mem_singleton] at hb
          subst hb
          subst q
          cases run_st r e.name e.step.thing with
          | none h1 h2 h3 => exact h2 ha
          | held d h1 h2 h3 => omega
          | gone d h1 h2 h3 => omega
        | false => rw [stOf_drop hk]; exact ih
      · rw [stOf_other hn]; exact ih
  · cases run_st r n t with
    | none h1 h2 h3 => exact absurd ht h3
    | held d h1 h2 h3 => exact absurd ht h2
    | gone d h1 h2 h3 => exact List.mem_map.mpr ⟨_, h1, rfl⟩
theorem mem_holdsL {s : StD} {t : Int} {d : Deed} : (t, d) ∈ holdsL s ↔ (t, d) ∈ s.locks ∧ t ∉ s.dr := by
  unfold holdsL
  rw [List.mem_filter]; simp
theorem legal_step {ts : List Thing} {evs : List Ev} {e : Ev} (r : Run ts evs) (l : Legal ts evs e) : StepOk ts (stOf evs e.name) e.step := by
  refine ⟨l.thing, fun h => ?_, fun h => ?_, l.share⟩
  · have := l.drop h
    cases run_st r e.name e.step.thing with
    | none h1 h2 h3 => omega
    | held d h1 h2 h3 => exact List.mem_map.mpr ⟨(e.step.thing, d), mem_holdsL.mpr ⟨h1, h2⟩, rfl⟩
    | gone d h1 h2 h3 => omega
  · have := l.lock h
    cases run_st r e.name e.step.thing with
    | none h1 h2 h3 => exact h2
    | held d h1 h2 h3 => omega
    | gone d h1 h2 h3 => omega
/-- the mode in which a thing is held -/
def heldM (s : StD) (t : Int) : Str := match (holdsL s).find? (fun p => decide (p.1 = t)) with
  | some p => p.2.s
  | none => ""
theorem heldM_get {s : StD} {t : Int} : (valR (holdsKV s) (Sum.inl t)).getD (rS "") = rS (heldM s t) := by
  unfold heldM holdsKV
  induction holdsL s with
  | nil => rfl
  | cons p l ih =>
    by_cases e : p.1 = t
    · subst e
      simp [valR]
    · have e1 : valR ((p :: l).map fun p => ((Sum.inl p.1 : Key), rS p.2.s)) (Sum.inl t) = valR (l.map fun p => ((Sum.inl p.1 : Key), rS p.2.s)) (Sum.inl t) := by simp [valR, e]
      rw [e1, ih]
      simp [List.find?_cons, e]
theorem heldM_run {ts : List Thing} {evs : List Ev} (r : Run ts evs) (hl : evs.length ≤ 1000) (n t : Int) : (stF evs n t = 1 ∧ heldM (stOf evs n) t = "own") ∨ (stF evs n t = 2 ∧ heldM (stOf evs n) t = "share") ∨ (stF evs n t ≠ 1 ∧ stF evs n t ≠ 2 ∧ heldM (stOf evs n) t = "") := by
  have ok := run_std r hl n
  have hnone : t ∉ (holdsL (stOf evs n)).map Prod.fst → heldM (stOf evs n) t = "" := fun h => by
    unfold heldM
    rw [List.find?_eq_none.mpr fun p hp => by
      have : ¬ p.1 = t := fun q => h (List.mem_map.mpr ⟨p, hp, q⟩)
      simp [this]]
  have nin : (∀ d, (t, d) ∈ (stOf evs n).locks → t ∈ (stOf evs n).dr) → t ∉ (holdsL (stOf evs n)).map Prod.fst := fun h hm => by
    obtain ⟨⟨t', d⟩, hp, rfl⟩ := List.mem_map.mp hm
    obtain ⟨h1, h2⟩ := mem_holdsL.mp hp
    exact h2 (h d h1)
  cases run_st r n t with
  | none h1 h2 h3 => exact .inr (.inr ⟨by omega, by omega, hnone (nin fun d hd => absurd (List.mem_map.mpr ⟨_, hd, rfl⟩) h2)⟩)
  | gone d h1 h2 h3 => exact .inr (.inr ⟨by omega, by omega, hnone (nin fun _ _ => h2)⟩)
  | held d h1 h2 h3 =>
    have hh : heldM (stOf evs n) t = d.s := by
      unfold heldM
      have hm := mem_holdsL.mpr ⟨h1, h2⟩
      cases hf : (holdsL (stOf evs n)).find? (fun p => decide (p.1 = t)) with
      | none => exact absurd (List.find?_eq_none.mp hf _ hm) (by simp)
      | some p =>
        have hp := List.mem_of_find?_eq_some hf
        have hp1 : p.1 = t := by simpa using List.find?_some hf
        have hp2 : p ∈ (stOf evs n).locks := (List.mem_filter.mp hp).1
        have : p = (t, d) := by
          obtain ⟨i, hi⟩ := List.getElem?_of_mem hp2
          obtain ⟨j, hj⟩ := List.getElem?_of_mem h1
          have nd := ok.nd
          have e1 : ((stOf evs n).locks.map Prod.fst)[i]? = some t := by rw [List.getElem?_map, hi, ← hp1]; rfl
          have e2 : ((stOf evs n).locks.map Prod.fst)[j]? = some t := by rw [List.getElem?_map, hj]; rfl
          obtain ⟨a1, b1⟩ := List.getElem?_eq_some_iff.mp e1
          obtain ⟨a2, b2⟩ := List.getElem?_eq_some_iff.mp e2
          have ij : i = j := by
            have nd := List.pairwise_iff_getElem.mp nd
            rcases Nat.lt_trichotomy i j with z | z | z
            · exact absurd (b1.trans b2.symm) (nd i j a1 a2 z)
            · exact z
            · exact absurd (b2.trans b1.symm) (nd j i a2 a1 z)
          subst ij
          rw [hi] at hj; exact Option.some.inj hj
        rw [this]
    rcases h3 with ⟨rfl, h3⟩ | ⟨rfl, h3⟩
    · exact .inl ⟨h3, hh⟩
    · exact .inr (.inl ⟨h3, hh⟩)

/-! ### lockers -/
abbrev rNM (p : Int × Deed) : R := rTp [rI p.1, rS p.2.s]
def lksOf (evs : List Ev) (t : Int) : List (Int × Deed) := (evs.filter fun e => isLk e && decide (e.step.thing = t)).map fun e => (e.name, e.step.deed)
def lthings (evs : List Ev) : List Int := evs.foldl (fun l e => if isLk e = true then addN l e.step.thing else l) []
theorem lthings_snoc (evs : List Ev) (e : Ev) : lthings (evs ++ [e]) = if isLk e = true then addN (lthings evs) e.step.thing else lthings evs := by
  unfold lthings; rw [List.foldl_append]; rfl
theorem lthings_none {evs : List Ev} {t : Int} (h : t ∉ lthings evs) : lksOf evs t = [] := by
  induction evs using snoc_ind with
  | h0 => rfl
  | hs l x ih =>
    rw [lthings_snoc] at h
    unfold lksOf at ih ⊢
    cases hk : isLk x with
    | true =>
      rw [hk, if_pos rfl, mem_addN, not_or] at h
      have h' : ¬ x.step.thing = t := fun q => h.2 q.symm
      rw [List.filter_append, List.map_append, ih h.1]
      simp [hk, h']
    | false =>
      rw [hk, if_neg Bool.false_ne_true] at h
      rw [List.filter_append, List.map_append, ih h]
      simp [hk]
def lockersKV (evs : List Ev) : List (Key × R) := kvOf (lthings evs) fun t => rLs ((lksOf evs t).map rNM)
theorem lockers_get {evs : List Ev} {t : Int} : (valR (lockersKV evs) (Sum.inl t)).getD (rLs []) = rLs ((lksOf evs t).map rNM) := by
  unfold lockersKV
  rw [kvOf_val]
  split
  · rfl
  · rename_i h
    rw [lthings_none h]; rfl
theorem lksOf_lock {evs : List Ev} {e : Ev} (h : isLk e = true) : lksOf (evs ++ [e]) e.step.thing = lksOf evs e.step.thing ++ [(e.name, e.step.deed)] := by
  unfold lksOf
  simp [List.filter_append, h]
theorem lksOf_other {evs : List Ev} {e : Ev} {t : Int} (h : t ≠ e.step.thing) : lksOf (evs ++ [e]) t = lksOf evs t := by
  unfold lksOf
  have h' : ¬ e.step.thing = t := fun q => h q.symm
  simp [List.filter_append, h']
theorem lksOf_drop {evs : List Ev} {e : Ev} {t : Int} (h : isLk e = false) : lksOf (evs ++ [e]) t = lksOf evs t := by
  unfold lksOf
  simp [List.filter_append, h]
theorem lockers_lock {evs : List Ev} {e : Ev} (h : isLk e = true) : putKR (lockersKV evs) (Sum.inl e.step.thing) (rLs ((lksOf evs e.step.thing ++ [(e.name, e.step.deed)]).map rNM)) = lockersKV (evs ++ [e]) := by
  unfold lockersKV
  rw [kvOf_put, lthings_snoc, if_pos h]
  refine kvOf_congr fun k _ => ?_
  by_cases z : k = e.step.thing
  · subst z
    rw [if_pos rfl, lksOf_lock h]
  · rw [if_neg z, lksOf_other z]
theorem lockers_drop {evs : List Ev} {e : Ev} (h : isLk e = false) : lockersKV (evs ++ [e]) = lockersKV evs := by
  unfold lockersKV
  rw [lthings_snoc, if_neg (by rw [h]; exact Bool.false_ne_true)]
  exact kvOf_congr fun k _ => by rw [lksOf_drop h]
theorem lksOf_len {evs : List Ev} {t : Int} : (lksOf evs t).length ≤ evs.length := by
  unfold lksOf
  rw [List.length_map]
  exact List.length_filter_le _ _
theorem lthings_len (evs : List Ev) : (lthings evs).length ≤ evs.length := by
  induction evs using snoc_ind with
  | h0 => simp [lthings]
  | hs l x ih =>
    rw [lthings_snoc, List.length_append, List.length_singleton]
    split
    · have := addN_len (l := lthings l) (n := x.step.thing); omega
    · omega
theorem mem_lksOf {evs : List Ev} {t n : Int} {d : Deed} : (n, d) ∈ lksOf evs t ↔ ∃ e ∈ evs, isLk e = true ∧ e.step.thing = t ∧ e.name = n ∧ e.step.deed = d := by
  unfold lksOf
  rw [List.mem_map]
  constructor
  · rintro ⟨e, he, q⟩
    obtain ⟨h1, h2⟩ := List.mem_filter.mp he
    simp only [Bool.and_eq_true, decide_eq_true_eq] at h2
    exact ⟨e, h1, h2.1, h2.2, congrArg Prod.fst q, congrArg Prod.snd q⟩
  · rintro ⟨e, he, h1, h2, h3, h4⟩
    exact ⟨e, List.mem_filter.mpr ⟨he, by simp [h1, h2]⟩, by rw [h3, h4]⟩

/-! ### edges -/
def edgesKV (ed : List (Int × Int)) : List (List Key × R) := ed.map fun p => ([(Sum.inl p.1 : Key), Sum.inl p.2], rB true)
theorem edges_some {a b : Int} : ∀ {ed : List (Int × Int)}, (valR (edgesKV ed) [(Sum.inl a : Key), Sum.inl b]).isSome = decide ((a, b) ∈ ed)
  | [] => rfl
  | p :: ed => by
    have ih := edges_some (a := a) (b := b) (ed := ed)
    by_cases e : p = (a, b)
    · subst e
      simp [valR, edgesKV]
    · have e0 : ¬ (p.1 = a ∧ p.2 = b) := fun q => e (Prod.ext q.1 q.2)
      have e3 : ¬ ([(Sum.inl p.1 : Key), Sum.inl p.2] = [(Sum.inl a : Key), Sum.inl b]) := fun q => by
        injection q with q1 q2
        injection q2 with q2 q3
        exact e0 ⟨Sum.inl.inj q1, Sum.inl.inj q2⟩
      have e1 : valR (edgesKV (p :: ed)) [(Sum.inl a : Key), Sum.inl b] = valR (edgesKV ed) [(Sum.inl a : Key), Sum.inl b] := by
        unfold valR edgesKV
        rw [List.map_cons, List.find?_cons_of_neg (by simpa using e3)]
      have e2 : ¬ (a, b) = p := fun q => e q.symm
      rw [e1, ih]
      simp [e2]
def addE (ed : List (Int × Int)) (p : Int × Int) : List (Int × Int) := if p ∈ ed then ed else ed ++ [p]
theorem mem_addE {ed : List (Int × Int)} {p q : Int × Int} : q ∈ addE ed p ↔ q ∈ ed ∨ q = p := by
  unfold addE
  split
  · rename_i h
    constructor
    · exact Or.inl
    · rintro (z | rfl)
      · exact z
      · exact h
  · simp
theorem edges_put {ed : List (Int × Int)} {a b : Int} : putKR (edgesKV ed) [(Sum.inl a : Key), Sum.inl b] (rB true) = edgesKV (addE ed (a, b)) := by
  unfold addE
  split
  · rename_i h
    unfold putKR
    rw [if_pos]
    · unfold edgesKV
      rw [List.map_map]
      refine List.map_congr_left fun k _ => ?_
      show (if _ then _ else _) = _
      split
      · rfl
      · rfl
    · unfold edgesKV
      simp only [List.any_map, List.any_eq_true]
      exact ⟨(a, b), h, by simp⟩
  · rename_i h
    rw [putKR_new]
    · unfold edgesKV; rw [List.map_append]; rfl
    · intro p hp e
      unfold edgesKV at hp
      obtain ⟨x, hx, rfl⟩ := List.mem_map.mp hp
      injection e with q1 q2
      injection q2 with q2 q3
      exact h ((show x = (a, b) from Prod.ext (Sum.inl.inj q1) (Sum.inl.inj q2)) ▸ hx)
/-- two events whose order matters -/
structure Cf (x y : Ev) : Prop where
  name : x.name ≠ y.name
  thing : x.step.thing = y.step.thing
  lk1 : isLk x = true
  lk2 : isLk y = true
  own : x.step.deed = .own ∨ y.step.deed = .own
def Edge (evs : List Ev) (a b : Int) : Prop := ∃ x y, [x, y].Sublist evs ∧ x.name = a ∧ y.name = b ∧ Cf x y
theorem pair_snoc {α : Type} {x y e : α} {l : List α} : [x, y].Sublist (l ++ [e]) ↔ [x, y].Sublist l ∨ (x ∈ l ∧ y = e) := by
  constructor
  · intro h
    obtain ⟨l1, l2, h1, h2, h3⟩ := List.sublist_append_iff.mp h
    have hl : l2.length ≤ 1 := by have := h3.length_le; simpa using this
    match l2, hl with
    | [], _ =>
      rw [List.append_nil] at h1
      subst h1
      exact .inl h2
    | [z], _ =>
      have hz : z = e := by simpa using h3.subset (List.mem_singleton.mpr rfl)
      subst hz
      match l1, h1 with
      | [u], h1 =>
        simp at h1
        obtain ⟨rfl, rfl⟩ := h1
        exact .inr ⟨h2.subset (List.mem_singleton.mpr rfl), rfl⟩
      | [], h1 => simp at h1
      | _ :: _ :: _, h1 => simp at h1
  · rintro (h | ⟨h1, rfl⟩)
    · exact h.trans (List.sublist_append_left _ _)
    · exact (List.singleton_sublist.mpr h1).append (List.Sublist.refl [y])
theorem Edge_nil {a b : Int} : ¬ Edge [] a b := fun ⟨x, y, h, _⟩ => by cases h
theorem Edge_snoc {evs : List Ev} {e : Ev} {a b : Int} : Edge (evs ++ [e]) a b ↔ Edge evs a b ∨ ∃ x ∈ evs, x.name = a ∧ e.name = b ∧ Cf x e := by
  constructor
  · rintro ⟨x, y, h, h1, h2, h3⟩
    rcases pair_snoc.mp h with g | ⟨g, rfl⟩
    · exact .inl ⟨x, y, g, h1, h2, h3⟩
    · exact .inr ⟨x, g, h1, h2, h3⟩
  · rintro (⟨x, y, h, h1, h2, h3⟩ | ⟨x, h, h1, h2, h3⟩)
    · exact ⟨x, y, pair_snoc.mpr (.inl h), h1, h2, h3⟩
    · exact ⟨x, e, pair_snoc.mpr (.inr ⟨h, rfl⟩), h1, h2, h3⟩
theorem Edge_filter {evs : List Ev} {p : Int → Bool} {a b : Int} : Edge (evs.filter fun e => p e.name) a b ↔ Edge evs a b ∧ p a = true ∧ p b = true := by
  constructor
  · rintro ⟨x, y, h, rfl, rfl, h3⟩
    have hx := (List.mem_filter.mp (h.subset (by simp : x ∈ [x, y]))).2
    have hy := (List.mem_filter.mp (h.subset (by simp : y ∈ [x, y]))).2
    exact ⟨⟨x, y, h.trans List.filter_sublist, rfl, rfl, h3⟩, hx, hy⟩
  · rintro ⟨⟨x, y, h, rfl, rfl, h3⟩, hx, hy⟩
    refine ⟨x, y, ?_, rfl, rfl, h3⟩
    have := h.filter fun e => p e.name
    rwa [List.filter_cons_of_pos (by simpa using hx), List.filter_cons_of_pos (by simpa using hy), List.filter_nil] at this
theorem Edge_names {evs : List Ev} {a b : Int} (h : Edge evs a b) : a ∈ namesOf evs ∧ b ∈ namesOf evs := by
  obtain ⟨x, y, h, rfl, rfl, _⟩ := h
  exact ⟨(mem_namesOf evs).mpr ⟨x, h.subset (by simp), rfl⟩, (mem_namesOf evs).mpr ⟨y, h.subset (by simp), rfl⟩⟩

/-! ### reads -/
structure Rd3 where
  name : Int
  thing : Int
  src : Int
deriving DecidableEq
instance : Inhabited Rd3 := ⟨⟨0, 0, 0⟩⟩
abbrev rRd (r : Rd3) : R := rTp [rI r.name, rI r.thing, rI r.src]
def lastO (evs : List Ev) (t : Int) : Int := evs.foldl (fun s e => if e.step.deed = .own ∧ e.step.thing = t then e.name else s) (-1)
theorem lastO_snoc (evs : List Ev) (e : Ev) (t : Int) : lastO (evs ++ [e]) t = if e.step.deed = .own ∧ e.step.thing = t then e.name else lastO evs t := by
  unfold lastO; rw [List.foldl_append]; rfl
def rdStep (s : List Rd3 × List Ev) (e : Ev) : List Rd3 × List Ev := (s.1 ++ (if isLk e = true then [⟨e.name, e.step.thing, lastO s.2 e.step.thing⟩] else []), s.2 ++ [e])
theorem rdStep_snd (evs : List Ev) : (evs.foldl rdStep ([], [])).2 = evs := by
  induction evs using snoc_ind with
  | h0 => rfl
  | hs l x ih =>
    rw [List.foldl_append]
    show (List.foldl rdStep ([], []) l).2 ++ [x] = _
    rw [ih]
def readsOf (evs : List Ev) : List Rd3 := (evs.foldl rdStep ([], [])).1
theorem readsOf_snoc (evs : List Ev) (e : Ev) : readsOf (evs ++ [e]) = readsOf evs ++ (if isLk e = true then [⟨e.name, e.step.thing, lastO evs e.step.thing⟩] else []) := by
  unfold readsOf
  rw [List.foldl_append]
  show (List.foldl rdStep ([], []) evs).1 ++ _ = _
  rw [rdStep_snd]
theorem readsOf_len (evs : List Ev) : (readsOf evs).length ≤ evs.length := by
  induction evs using snoc_ind with
  | h0 => simp [readsOf]
  | hs l x ih =>
    rw [readsOf_snoc, List.length_append, List.length_append, List.length_singleton]
    split
    · simp; omega
    · simp; omega
def ownedT (evs : List Ev) : List Int := evs.foldl (fun l e => if e.step.deed = .own then addN l e.step.thing else l) []
theorem ownedT_snoc (evs : List Ev) (e : Ev) : ownedT (evs ++ [e]) = if e.step.deed = .own then addN (ownedT evs) e.step.thing else ownedT evs := by
  unfold ownedT; rw [List.foldl_append]; rfl
theorem ownedT_len (evs : List Ev) : (ownedT evs).length ≤ evs.length := by
  induction evs using snoc_ind with
  | h0 => simp [ownedT]
  | hs l x ih =>
    rw [ownedT_snoc, List.length_append, List.length_singleton]
    split
    · have := addN_len (l := ownedT l) (n := x.step.thing); omega
    · omega
def lastKV (evs : List Ev) : List (Key × R) := kvOf (ownedT evs) fun t => rI (lastO evs t)
theorem lastO_none {evs : List Ev} {t : Int} (h : t ∉ ownedT evs) : lastO evs t = -1 := by
  induction evs using snoc_ind with
  | h0 => rfl
  | hs l x ih =>
    rw [ownedT_snoc] at h
    rw [lastO_snoc]
    by_cases hd : x.step.deed = .own
    · rw [if_pos hd, mem_addN, not_or] at h
      rw [if_neg (fun q => h.2 q.2.symm)]
      exact ih h.1
    · rw [if_neg hd] at h
      rw [if_neg (fun q => hd q.1)]
      exact ih h
theorem last_get {evs : List Ev} {t : Int} : (valR (lastKV evs) (Sum.inl t)).getD (rI (-1)) = rI (lastO evs t) := by
  unfold lastKV
  rw [kvOf_val]
  split
  · rfl
  · rename_i h
    rw [lastO_none h]; rfl
theorem last_own {evs : List Ev} {e : Ev} (h : e.step.deed = .own) : putKR (lastKV evs) (Sum.inl e.step.thing) (rI e.name) = lastKV (evs ++ [e]) := by
  unfold lastKV
  rw [kvOf_put, ownedT_snoc, if_pos h]
  refine kvOf_congr fun k _ => ?_
  rw [lastO_snoc]
  by_cases z : k = e.step.thing
  · rw [if_pos z, if_pos ⟨h, z.symm⟩]
  · rw [if_neg z, if_neg (fun q => z q.2.symm)]
theorem last_other {evs : List Ev} {e : Ev} (h : e.step.deed ≠ .own) : lastKV (evs ++ [e]) = lastKV evs := by
  unfold lastKV
  rw [ownedT_snoc, if_neg h]
  exact kvOf_congr fun k _ => by rw [lastO_snoc, if_neg (fun q => h q.1)]

/-! ### weavings -/
def standsKV (K : PySem.W.Frag) (ms : List Str) (rows : List Row) (ts : List Thing) (evs : List Ev) : List (Key × R) := kvOf (namesOf evs) fun n => rStand K ms rows ts (stOf evs n)
theorem stands_put {K : PySem.W.Frag} {ms : List Str} {rows : List Row} {ts : List Thing} {evs : List Ev} {e : Ev} : putKR (standsKV K ms rows ts evs) (Sum.inl e.name) (rStand K ms rows ts (stOf (evs ++ [e]) e.name)) = standsKV K ms rows ts (evs ++ [e]) := by
  unfold standsKV
  rw [kvOf_put, namesOf_snoc]
  refine kvOf_congr fun k _ => ?_
  by_cases z : k = e.name
  · rw [if_pos z, z]
  · rw [if_neg z, stOf_other z]
/-- a weaving: its web (finished), its events, its edges in some order; finished, or own at x, pe, ps, pl, pd -/
structure WvD where
  ms : List Str
  rows : List Row
  ts : List Thing
  evs : List Ev
  ed : List (Int × Int)
structure WvA where
  x : Addr
  pe : Addr
  ps : Addr
  pl : Addr
  pd : Addr
abbrev wvF (K : PySem.W.Frag) (d : WvD) : List (Str × R) := [("web", rWeb K d.ms d.rows d.ts), ("_events", rLs (d.evs.map rEv)), ("_standings", rDk (standsKV K d.ms d.rows d.ts d.evs)), ("_lockers", rDk (lockersKV d.evs)), ("_edges", rDt (edgesKV d.ed))]
abbrev wvG (K : PySem.W.Frag) (d : WvD) (a : WvA) : List (Str × R) := [("web", rWeb K d.ms d.rows d.ts), ("_events", rA a.pe), ("_standings", rA a.ps), ("_lockers", rA a.pl), ("_edges", rA a.pd)]
abbrev rWv (K : PySem.W.Frag) (d : WvD) : R := rIn (He.ga K "Weaving") (wvF K d)
abbrev wvO (K : PySem.W.Frag) (d : WvD) (a : WvA) : List Own := [oIn a.x (He.ga K "Weaving") (wvG K d a), oLs a.pe (d.evs.map rEv), oDk a.ps (standsKV K d.ms d.rows d.ts d.evs), oDk a.pl (lockersKV d.evs), oDt a.pd (edgesKV d.ed)]
structure WvOk (d : WvD) : Prop where
  web : WebOk ⟨d.ms, d.rows, d.ts, true, 0, 0, 0⟩
  run : Run d.ts d.evs
  len : d.evs.length ≤ 50
  ed : (∀ a b, (a, b) ∈ d.ed ↔ Edge d.evs a b) ∧ d.ed.length ≤ 50 * d.evs.length
theorem ThingsOk.row {rows : List Row} {ts : List Thing} (h : ThingsOk rows ts) {t : Int} (ht : 0 ≤ t ∧ t < ts.length) : ∃ r ∈ rows, r.mark = (ts.getD t.toNat default).mark ∧ r.shared = (ts.getD t.toNat default).shared := by
  have hk : t.toNat < ts.length := by omega
  have e := List.getElem?_eq_getElem hk
  obtain ⟨⟨r, h1, h2, h3, _⟩, _⟩ := h _ _ e
  refine ⟨r, h1, ?_, ?_⟩
  · rw [List.getD_eq_getElem?_getD, e]; exact h2
  · rw [List.getD_eq_getElem?_getD, e]; exact h3
theorem map_getG {α β : Type} {t : α → β} {xs : List α} {i : Nat} {q : β} (h : (xs.map t)[i]? = some q) : ∃ x, xs[i]? = some x ∧ q = t x := by
  rw [List.getElem?_map] at h
  cases e : xs[i]? with
  | none => rw [e] at h; cases h
  | some x => rw [e] at h; exact ⟨x, rfl, (Option.some.inj h).symm⟩
abbrev standP (K : PySem.W.Frag) (ms : List Str) (rows : List Row) (ts : List Thing) (d : Addr) (s : StD) : List (Str × R) := [("web", rWeb K ms rows ts), ("_modes", rA d), ("_holds", rDk (holdsKV s)), ("_loose", rB s.lo)]
theorem standP_eq {K : PySem.W.Frag} {ms : List Str} {rows : List Row} {ts : List Thing} {d : Addr} {s : StD} {q : R} : putR "_modes" (rA d) [("web", rWeb K ms rows ts), ("_modes", q), ("_holds", rDk (holdsKV s)), ("_loose", rB s.lo)] = standP K ms rows ts d s := rfl
/-- the locks of a standing fit its web -/
def StdW (ts : List Thing) (s : StD) : Prop := ∀ p ∈ s.locks, (0 ≤ p.1 ∧ p.1 < ts.length) ∧ (p.2 = .share → (ts.getD p.1.toNat default).shared = true)
theorem run_stdW {ts : List Thing} {evs : List Ev} (r : Run ts evs) (n : Int) : StdW ts (stOf evs n) := by
  intro p hp
  induction r with
  | nil => simp [stOf] at hp
  | @snoc evs e r l ih =>
    by_cases hn : n = e.name
    · subst hn
      cases hk : isLk e with
      | true =>
        rw [stOf_lock hk] at hp
        rcases List.mem_append.mp hp with h | h
        · exact ih h
        · rw [List.mem_singleton.mp h]
          exact ⟨l.thing, l.share⟩
      | false => rw [stOf_drop hk] at hp; exact ih hp
    · rw [stOf_other hn] at hp; exact ih hp
theorem nodup_idx {α : Type} {l : List α} (h : l.Nodup) {i j : Nat} {x : α} (e1 : l[i]? = some x) (e2 : l[j]? = some x) : i = j := by
  obtain ⟨a1, b1⟩ := List.getElem?_eq_some_iff.mp e1
  obtain ⟨a2, b2⟩ := List.getElem?_eq_some_iff.mp e2
  have nd := List.pairwise_iff_getElem.mp h
  rcases Nat.lt_trichotomy i j with z | z | z
  · exact absurd (b1.trans b2.symm) (nd i j a1 a2 z)
  · exact z
  · exact absurd (b2.trans b1.symm) (nd j i a2 a1 z)
theorem take_nin {s : StD} (o : StdOk s) {i : Nat} {p : Int × Deed} (hp : s.locks[i]? = some p) : p.1 ∉ ((s.locks.take i).map Prod.fst) := fun h => by
  obtain ⟨q, hq, e⟩ := List.mem_map.mp h
  obtain ⟨j, hj⟩ := List.getElem?_of_mem hq
  rw [List.getElem?_take] at hj
  split at hj
  · rename_i z
    have := nodup_idx o.nd (i := i) (j := j) (x := p.1) (by rw [List.getElem?_map, hp]; rfl) (by rw [List.getElem?_map, hj, ← e]; rfl)
    omega
  · cases hj
/-- the first i locks of a standing; all locks, the drops among the first i -/
def stTake (s : StD) (i : Nat) : StD := ⟨s.locks.take i, []⟩
def stDr (s : StD) (i : Nat) : StD := ⟨s.locks, ((s.locks.take i).map Prod.fst).filter fun t => decide (t ∈ s.dr)⟩
theorem stTake_ok {s : StD} (o : StdOk s) (i : Nat) : StdOk (stTake s i) where
  nd := o.nd.sublist ((List.take_sublist _ _).map _)
  lock := fun p hp => o.lock p (List.mem_of_mem_take hp)
  dr := fun t ht => by cases ht
  len := Nat.le_trans (by show (s.locks.take i).length ≤ s.locks.length; rw [List.length_take]; omega) o.len
theorem stTake_step {ts : List Thing} {s : StD} (o : StdOk s) (w : StdW ts s) {i : Nat} {p : Int × Deed} (hp : s.locks[i]? = some p) : StepOk ts (stTake s i) ⟨p.2, p.1⟩ := by
  have hm := List.mem_of_getElem? hp
  exact ⟨(w p hm).1, fun h => absurd h (o.lock p hm), fun _ => take_nin o hp, (w p hm).2⟩
theorem stTake_succ {s : StD} (o : StdOk s) {i : Nat} {p : Int × Deed} (hp : s.locks[i]? = some p) : takeS (stTake s i) ⟨p.2, p.1⟩ = stTake s (i + 1) := by
  unfold takeS stTake
  rw [if_neg (o.lock p (List.mem_of_getElem? hp)), take_snoc hp]
theorem stDr_ok {s : StD} (o : StdOk s) (i : Nat) : StdOk (stDr s i) where
  nd := o.nd
  lock := o.lock
  dr := fun t ht => by
    obtain ⟨h1, _⟩ := List.mem_filter.mp ht
    obtain ⟨p, hp, rfl⟩ := List.mem_map.mp h1
    exact List.mem_map.mpr ⟨p, List.mem_of_mem_take hp, rfl⟩
  len := o.len
theorem stDr_step {ts : List Thing} {s : StD} (o : StdOk s) (w : StdW ts s) {i : Nat} {p : Int × Deed} (hp : s.locks[i]? = some p) (hd : p.1 ∈ s.dr) : StepOk ts (stDr s i) ⟨.drop, p.1⟩ := by
  have hm := List.mem_of_getElem? hp
  refine ⟨(w p hm).1, fun _ => List.mem_map.mpr ⟨p, mem_holdsL.mpr ⟨hm, fun h => ?_⟩, rfl⟩, fun h => absurd rfl h, fun h => nomatch h⟩
  exact take_nin o hp (List.mem_filter.mp h).1
theorem stDr_drop {s : StD} {i : Nat} {p : Int × Deed} (hp : s.locks[i]? = some p) (hd : p.1 ∈ s.dr) : takeS (stDr s i) ⟨.drop, p.1⟩ = stDr s (i + 1) := by
  unfold takeS stDr
  rw [if_pos rfl, take_snoc hp, List.map_append, List.filter_append]
  simp [hd]
theorem stDr_keep {s : StD} {i : Nat} {p : Int × Deed} (hp : s.locks[i]? = some p) (hd : p.1 ∉ s.dr) : stDr s i = stDr s (i + 1) := by
  unfold stDr
  rw [take_snoc hp, List.map_append, List.filter_append]
  simp [hd]
theorem stDr_mem {s : StD} (o : StdOk s) (t : Int) : t ∈ (stDr s s.locks.length).dr ↔ t ∈ s.dr := by
  unfold stDr
  rw [List.take_length, List.mem_filter, decide_eq_true_eq]
  exact ⟨fun h => h.2, fun h => ⟨o.dr t h, h⟩⟩
theorem stDr_holds {s : StD} (o : StdOk s) : holdsKV (stDr s s.locks.length) = holdsKV s := by
  unfold holdsKV
  congr 1
  unfold holdsL
  refine List.filter_congr fun p _ => ?_
  have := stDr_mem o p.1
  simp only [this]
theorem stDr_lo {s : StD} (o : StdOk s) : (stDr s s.locks.length).lo = s.lo := by
  unfold StD.lo
  have e : (stDr s s.locks.length).dr = [] ↔ s.dr = [] := by
    constructor
    · intro h
      refine List.eq_nil_iff_forall_not_mem.mpr fun t ht => ?_
      have := (stDr_mem o t).mpr ht
      rw [h] at this; cases this
    · intro h
      refine List.eq_nil_iff_forall_not_mem.mpr fun t ht => ?_
      have := (stDr_mem o t).mp ht
      rw [h] at this; cases this
  congr 1
  cases h1 : (stDr s s.locks.length).dr with
  | nil => rw [e.mp h1]
  | cons a l =>
    cases h2 : s.dr with
    | nil => rw [e.mpr h2] at h1; cases h1
    | cons b m => rfl
end W
/-! GL27: walks over dicts: locks; list(d); the keys and items of finished dicts, the keys of an own dict. Own work. -/
namespace G
open PySem PySem.Spec PyProof.Rows L2

/-! ### locks -/
def tLockU (t : TS) : TS := fun D σ H => tLock t D σ H ∨ t D σ H
def tLockEU (t : TE) : TE := fun σ H Q => tLockE t σ H Q ∨ t σ H Q
section
variable {X : Cx}
theorem ps_lockU {st : Stmt} {t : TS} (h : PS X st t) : PS X st (tLockU t) :=
  ⟨fun pins s σ H D I w => w.elim ((ps_lock h).run pins s σ H D I) (h.run pins s σ H D I)⟩
theorem pe_lockU {e : Expr} {t : TE} (h : PE X e t) : PE X e (tLockEU t) :=
  ⟨fun pins s σ H Q I w => w.elim ((pe_lock h).run pins s σ H Q I) (h.run pins s σ H Q I)⟩
end
def lkS (L : Lk) (d : Addr) (od : Obj) : Lk := fun a => if a = d then some od else L a
theorem lkS_same {L : Lk} {d : Addr} {od : Obj} : lkS L d od d = some od := if_pos rfl
theorem lkS_ne {L : Lk} {d a : Addr} {od : Obj} (h : a ≠ d) : lkS L d od a = L a := if_neg h
theorem Cur.lock {L B hs H} (c : Cur L B hs H) {d : Addr} {u : HO} {od : Obj} (e : B d = some u) (m : isD u = true) (n : L d = none) : Cur (lkS L d od) B hs (upd H d (.frz od u)) := by
  refine ⟨fun a o q => ?_, fun a o' q => ?_, fun h hh a o q => ?_, c.dB, c.dh⟩
  · by_cases z : a = d
    · subst z
      rw [e] at q; cases q
      rw [upd_same]; unfold rdL; rw [lkS_same]
    · rw [upd_ne z]; unfold rdL; rw [lkS_ne z]; exact c.base a o q
  · by_cases z : a = d
    · subst z; exact ⟨u, e, m⟩
    · rw [lkS_ne z] at q; exact c.lk a o' q
  · have hd : h d = none := by
      rcases c.dB h hh d with z | z
      · rw [e] at z; cases z
      · exact z
    rw [upd_ne (ne_of_none q hd)]
    exact c.own h hh a o q
theorem Cur.unlock {L B hs H} {d : Addr} {u : HO} {od : Obj} (c : Cur (lkS L d od) B hs H) (e : B d = some u) (n : L d = none) : H d = some (.frz od u) ∧ Cur L B hs (upd H d u) := by
  refine ⟨?_, fun a o q => ?_, fun a o' q => ?_, fun h hh a o q => ?_, c.dB, c.dh⟩
  · have := c.base d u e
    unfold rdL at this; rw [lkS_same] at this; exact this
  · by_cases z : a = d
    · subst z
      rw [e] at q; cases q
      rw [upd_same]; unfold rdL; rw [n]
    · rw [upd_ne z]
      have := c.base a o q
      unfold rdL at this ⊢; rw [lkS_ne z] at this; exact this
  · have z : a ≠ d := fun z => by subst z; rw [n] at q; cases q
    exact c.lk a o' (by rw [lkS_ne z]; exact q)
  · have hd : h d = none := by
      rcases c.dB h hh d with z | z
      · rw [e] at z; cases z
      · exact z
    rw [upd_ne (ne_of_none q hd)]
    exact c.own h hh a o q

/-! ### what is walked -/
def rDv (d : Addr) (kvs : List (Key × V)) (kqs : List (Key × R)) : R := ⟨fun B v => v = .non ∧ B d = some (.dK kvs) ∧ AllK B kqs kvs, fun e ⟨h0, h1, h2⟩ => ⟨h0, e _ _ h1, h2.mono e⟩⟩
abbrev rKey (k : Key) : R := rV (kV k)
def yK (kqs : List (Key × R)) (i : Nat) : R := match kqs[i]? with
  | some p => rKey p.1
  | none => rAny
def yI (kqs : List (Key × R)) (i : Nat) : R := match kqs[i]? with
  | some p => rTp [rKey p.1, p.2]
  | none => rAny
theorem rdLk {L B hs H} (c : Cur L B hs H) {d : Addr} {u : HO} {od : Obj} (e : B d = some u) (hL : L d = some od) : H d = some (.frz od u) := by
  have := c.base d u e
  unfold rdL at this; rw [hL] at this; exact this
theorem src_keys {L : Lk} {d : Addr} {od : Obj} {kvs : List (Key × V)} {kqs : List (Key × R)} (hL : L d = some od) (hn : kqs.length = kvs.length) : Src L (Itk d od kvs) kqs.length (yK kqs) (rDv d kvs kqs) where
  go := fun hi c g => ⟨rdLk c g.2.1 hL, by omega⟩
  stop := fun c g => ⟨rdLk c g.2.1 hL, by omega⟩
  yld := fun {i B hs H x H'} hi c g y => by
    obtain ⟨rfl, k, v, e, rfl⟩ := y
    obtain ⟨b, hb, h1, _⟩ := pget g.2.2 (List.getElem?_eq_getElem hi)
    rw [e] at hb; cases hb
    refine ⟨B, Ex.refl B, c, ?_⟩
    unfold yK
    rw [List.getElem?_eq_getElem hi]
    show kV k = kV kqs[i].1
    rw [h1]
theorem src_items {L : Lk} {d : Addr} {od : Obj} {kvs : List (Key × V)} {kqs : List (Key × R)} (hL : L d = some od) (hn : kqs.length = kvs.length) : Src L (Iti d od kvs) kqs.length (yI kqs) (rDv d kvs kqs) where
  go := fun hi c g => ⟨rdLk c g.2.1 hL, by omega⟩
  stop := fun c g => ⟨rdLk c g.2.1 hL, by omega⟩
  yld := fun {i B hs H x H'} hi c g y => by
    obtain ⟨T, k, v, e, rfl, hT, rfl⟩ := y
    obtain ⟨b, hb, h1, h2⟩ := pget g.2.2 (List.getElem?_eq_getElem hi)
    rw [e] at hb; cases hb
    refine ⟨upd B T (.tup [kV k, v]), Ex.new (c.free hT), c.newB hT, ?_⟩
    unfold yI
    rw [List.getElem?_eq_getElem hi]
    refine ⟨T, _, rfl, upd_same, .cons ?_ (.cons ?_ .nil)⟩
    · show kV k = kV kqs[i].1
      rw [h1]
    · exact R.mono _ (Ex.new (c.free hT)) h2

/-! ### for over a finished dict -/
section
variable {L : Lk} {rs rs' rw : List (Option R)} {st : List R} {os os' : List Own} {K : KK} {D : Ends} {F : PySem.W.Frag} {g : TG} {tb : TS} {td te : TE} {tt : TT} {vs : List Nat} {d : Addr} {kqs : List (Key × R)} {j : Nat}
/-- the end of a locked statement -/
abbrev Dlk (d : Addr) (od : Obj) (u : HO) (D : Ends) : Ends := ⟨fun σ' H' => H' d = some (.frz od u) ∧ D.nx σ' (upd H' d u), fun v H' => H' d = some (.frz od u) ∧ D.rt v (upd H' d u), fun σ' H' => H' d = some (.frz od u) ∧ D.bk σ' (upd H' d u), fun σ' H' => H' d = some (.frz od u) ∧ D.ct σ' (upd H' d u)⟩
theorem lock_split {t : TS} [h : AtIs os (.ref d) (rDk kqs) j]
    (core : ∀ (L' : Lk) (D' : Ends) (od : Obj) (kvs : List (Key × V)), L' d = some od → kqs.length = kvs.length → (∀ rs' os', Gk L rs' st os' (nxk D) → Gk L' rs' (rDv d kvs kqs :: st) os' (nxk D')) → Gk L' rs (rDv d kvs kqs :: st) os (stk t D')) : Gk L rs st os (stk (tLockU t) D) := fun σ vs H s => by
  obtain ⟨B, hs, c, ho, hr, hst⟩ := s
  obtain ⟨a, kvs, e, hB, hk⟩ := h.get ho
  cases e
  cases hL : L d with
  | none =>
    refine .inl ⟨d, .dK kvs, by have := c.base d _ hB; unfold rdL at this; rw [hL] at this; exact this, trivial, fun od => ?_⟩
    refine core (lkS L d od) (Dlk d od (.dK kvs) D) od kvs lkS_same (AllK.len hk) (fun rs' os' hd σ' vs' H' s' => ?_) σ (.non :: vs) _ ⟨B, hs, c.lock hB rfl hL, ho, hr, .cons ⟨rfl, hB, hk⟩ hst⟩
    obtain ⟨B', hs', c', ho', hr', hst'⟩ := s'
    cases hst' with
    | @cons _ _ _ tl g1 g2 =>
      obtain ⟨u1, u2⟩ := c'.unlock g1.2.1 hL
      exact ⟨u1, hd σ' tl _ ⟨B', hs', u2, ho', hr', g2⟩⟩
  | some od =>
    refine .inr (core L D od kvs hL (AllK.len hk) (fun rs' os' hd σ' vs' H' s' => ?_) σ (.non :: vs) H ⟨B, hs, c, ho, hr, .cons ⟨rfl, hB, hk⟩ hst⟩)
    obtain ⟨B', hs', c', ho', hr', hst'⟩ := s'
    cases hst' with
    | @cons _ _ _ tl g1 g2 => exact hd σ' tl _ ⟨B', hs', c', ho', hr', g2⟩
def forKk (g : TG) (tb : TS) (D : Ends) : KK := fun σ vs H => match vs with
  | x :: _ => ∃ d o, x = .ref d ∧ ((∃ kvs, H d = some (.frz o (.dK kvs)) ∧ forJ (Itk d o kvs) g tb D σ H) ∨ ∃ kvs, H d = some (.frz o (.dT kvs)) ∧ forJ (Itkt d o kvs) g tb D σ H)
  | [] => False
def forIk2 (g : TG) (tb : TS) (D : Ends) : KK := fun σ vs H => match vs with
  | x :: _ => ∃ d o kvs, x = .ref d ∧ H d = some (.frz o (.dK kvs)) ∧ forJ (Iti d o kvs) g tb D σ H
  | [] => False
theorem k_forKeys [h : AtIs os (.ref d) (rDk kqs) j] (hv : ∀ (L' : Lk) (gh : R) (K' : KK), Gk L' rs (rA d :: gh :: st) os K' → Gk L' rs (gh :: st) os (evk td K'))
    {T : Type} (J : Nat → T → Prop) (rsF : T → List (Option R)) (osF : T → List Own) (s0 : T) (h0 : J 0 s0) (l0 : Le rs (rsF s0)) (o0 : os = osF s0)
    (turn : ∀ (L' : Lk) (D' : Ends) (i : Nat) (k : Key) (q gh gh' : R) (s : T) (N : L2.St → Hp → Prop), kqs[i]? = some (k, q) → J i s → (∀ s', J (i + 1) s' → Gk L' (rsF s') (gh :: gh' :: st) (osF s') (fun σ _ H => N σ H)) → Gk L' (rsF s) (rKey k :: gh :: gh' :: st) (osF s) (tgk g (Dn tb (Dl N D'))))
    (done : ∀ s, J kqs.length s → Gk L (rsF s) st (osF s) (nxk D)) : Gk L rs st os (stk (tLockU (tFor (iKeys td) g tb)) D) := by
  refine lock_split (d := d) (kqs := kqs) fun L' D' od kvs hL hn hD => ?_
  refine hv L' (rDv d kvs kqs) (forKk g tb D') fun σ vs H s => ?_
  obtain ⟨B, hs, c, ho, hr, hst⟩ := s
  cases hst with
  | @cons _ x _ tl h1 h2 =>
    cases h2 with
    | cons h3 h4 =>
      refine ⟨d, od, h1, .inl ⟨kvs, rdLk c h3.2.1 hL, ?_⟩⟩
      refine for_src (src_keys hL hn) (fun _ _ h => ⟨rfl, h.2⟩) J rsF osF s0 h0 l0 o0 (fun i s N hi hj hN => ?_) (fun s hj => hD _ _ (done s hj)) (tl := .non :: .non :: _) (st := rDv d kvs kqs :: st) ⟨B, hs, c, ho, hr, .cons ⟨rfl, h3.2⟩ (.cons ⟨rfl, h3.2⟩ h4)⟩
      have e := turn L' D' i kqs[i].1 kqs[i].2 (rDv d kvs kqs) (rDv d kvs kqs) s N (List.getElem?_eq_getElem hi) hj hN
      unfold yK
      rw [List.getElem?_eq_getElem hi]
      exact e
theorem k_forItems [h : AtIs os (.ref d) (rDk kqs) j] (hv : ∀ (L' : Lk) (gh : R) (K' : KK), Gk L' rs (rA d :: gh :: st) os K' → Gk L' rs (gh :: st) os (evk td K'))
    {T : Type} (J : Nat → T → Prop) (rsF : T → List (Option R)) (osF : T → List Own) (s0 : T) (h0 : J 0 s0) (l0 : Le rs (rsF s0)) (o0 : os = osF s0)
    (turn : ∀ (L' : Lk) (D' : Ends) (i : Nat) (k : Key) (q gh gh' : R) (s : T) (N : L2.St → Hp → Prop), kqs[i]? = some (k, q) → J i s → (∀ s', J (i + 1) s' → Gk L' (rsF s') (gh :: gh' :: st) (osF s') (fun σ _ H => N σ H)) → Gk L' (rsF s) (rTp [rKey k, q] :: gh :: gh' :: st) (osF s) (tgk g (Dn tb (Dl N D'))))
    (done : ∀ s, J kqs.length s → Gk L (rsF s) st (osF s) (nxk D)) : Gk L rs st os (stk (tLockU (tFor (iItems td) g tb)) D) := by
  refine lock_split (d := d) (kqs := kqs) fun L' D' od kvs hL hn hD => ?_
  refine hv L' (rDv d kvs kqs) (forIk2 g tb D') fun σ vs H s => ?_
  obtain ⟨B, hs, c, ho, hr, hst⟩ := s
  cases hst with
  | @cons _ x _ tl h1 h2 =>
    cases h2 with
    | cons h3 h4 =>
      refine ⟨d, od, kvs, h1, rdLk c h3.2.1 hL, ?_⟩
      refine for_src (src_items hL hn) (fun _ _ h => ⟨rfl, h.2⟩) J rsF osF s0 h0 l0 o0 (fun i s N hi hj hN => ?_) (fun s hj => hD _ _ (done s hj)) (tl := .non :: .non :: _) (st := rDv d kvs kqs :: st) ⟨B, hs, c, ho, hr, .cons ⟨rfl, h3.2⟩ (.cons ⟨rfl, h3.2⟩ h4)⟩
      have e := turn L' D' i kqs[i].1 kqs[i].2 (rDv d kvs kqs) (rDv d kvs kqs) s N (List.getElem?_eq_getElem hi) hj hN
      unfold yI
      rw [List.getElem?_eq_getElem hi]
      exact e

/-! ### comprehensions over the keys -/
def lcKk (g : TG) (tt : TT) (te : TE) (vs : List Nat) (Q : VK) : KK := fun σ us H => match us with
  | x :: _ => ∃ d o, x = .ref d ∧ ((∃ kvs, H d = some (.frz o (.dK kvs)) ∧ lcK (Itk d o kvs) g tt te vs (fun D H => Q (.ref D) H) σ H) ∨ ∃ kvs, H d = some (.frz o (.dT kvs)) ∧ lcK (Itkt d o kvs) g tt te vs (fun D H => Q (.ref D) H) σ H)
  | [] => False
theorem k_lcKeys [h : AtIs os (.ref d) (rDk kqs) j] (hv : ∀ (L' : Lk) (gh : R) (K' : KK), Gk L' rs (rA d :: gh :: st) os K' → Gk L' rs (gh :: st) os (evk td K'))
    (p : Key × R → Bool) (r : Key × R → R) [w : WipeS rs vs rw] (rsI : Key × R → List (Option R)) (hn : kqs.length ≤ 10000) (hg : ∀ x, GOk g vs (rKey x.1) rw (rsI x))
    (turn : ∀ (L' : Lk) (x : Key × R), x ∈ kqs → ∀ (gx gx' : R) (D : Addr) (acc : List R) (K2 : Bool → KK), Gk L' (rsI x) (gx :: gx' :: st) (oLs D acc :: os) (K2 (p x)) → Gk L' (rsI x) (gx :: gx' :: st) (oLs D acc :: os) (tk tt K2))
    (elt : ∀ (L' : Lk) (x : Key × R), x ∈ kqs → p x = true → ∀ (gx gx' : R) (D : Addr) (acc : List R) (K' : KK), Gk L' (rsI x) (r x :: gx :: gx' :: st) (oLs D acc :: os) K' → Gk L' (rsI x) (gx :: gx' :: st) (oLs D acc :: os) (evk te K'))
    (done : ∀ D, Gk L rs (rA D :: st) (oLs D ((kqs.filter p).map r) :: os) K) : Gk L rs st os (evk (tLockEU (tLc (iKeys td) g tt te vs)) K) := fun σ us H s => by
  obtain ⟨B, hs, c, ho, hr, hst⟩ := s
  obtain ⟨a, kvs, e, hB, hk⟩ := h.get ho
  cases e
  have hlen := AllK.len hk
  have core : ∀ (L' : Lk) (od : Obj) (H1 : Hp) (Q : VK), L' d = some od → Cur L' B hs H1 → (∀ (D : Addr) (H' : Hp), S L' rs (rDv d kvs kqs :: st) (oLs D ((kqs.filter p).map r) :: os) σ (.non :: us) H' → Q (.ref D) H') → tLc (iKeys td) g tt te vs σ H1 Q := fun L' od H1 Q hL c1 hQ => by
    show td σ H1 (fun v H2 => lcKk g tt te vs Q σ (v :: .non :: us) H2)
    have e : (fun (v : V) (H2 : Hp) => σ = σ ∧ (v :: .non :: us).tail = .non :: us → lcKk g tt te vs Q σ (v :: .non :: us) H2) = fun v H2 => lcKk g tt te vs Q σ (v :: .non :: us) H2 := by
      funext v H2
      exact propext ⟨fun h => h ⟨rfl, rfl⟩, fun h _ => h⟩
    rw [← e]
    refine hv L' (rDv d kvs kqs) (fun τ ws H2 => τ = σ ∧ ws.tail = .non :: us → lcKk g tt te vs Q τ ws H2) (fun τ ws H2 s2 et => ?_) σ (.non :: us) H1 ⟨B, hs, c1, ho, hr, .cons ⟨rfl, hB, hk⟩ hst⟩
    obtain ⟨rfl, et⟩ := et
    obtain ⟨B2, hs2, c2, ho2, hr2, hst2⟩ := s2
    cases hst2 with
    | @cons _ x _ tl h1 h2 =>
      have et : tl = .non :: us := et
      subst et
      cases h2 with
      | cons h3 h4 =>
        refine ⟨d, od, h1, .inl ⟨kvs, rdLk c2 h3.2.1 hL, ?_⟩⟩
        refine lc_pure (xs := kqs) (t := fun x => rKey x.1) (src_keys hL hlen) (fun i x e => by unfold yK; rw [e]) p r rsI hn w.e hg (fun x hx gx D acc K2 hh => turn L' x hx gx (rDv d kvs kqs) D acc K2 hh) (fun x hx hp gx D acc K' hh => elt L' x hx hp gx (rDv d kvs kqs) D acc K' hh) (st := rDv d kvs kqs :: st) (tl := .non :: us) (fun D H' s' => ?_) ⟨B2, hs2, c2, ho2, hr2, .cons ⟨rfl, h3.2⟩ (.cons ⟨rfl, h3.2⟩ h4)⟩
        obtain ⟨B3, hs3, c3, ho3, hr3, hst3⟩ := s'
        cases hst3 with
        | cons g1 g2 => exact hQ D H' ⟨B3, hs3, c3, ho3, hr3, g2⟩
  cases hL : L d with
  | none =>
    refine .inl ⟨d, .dK kvs, by have := c.base d _ hB; unfold rdL at this; rw [hL] at this; exact this, trivial, fun od => ?_⟩
    refine core (lkS L d od) od _ _ lkS_same (c.lock hB rfl hL) fun D H' s' => ?_
    obtain ⟨B', hs', c', ho', hr', hst'⟩ := s'
    cases hst' with
    | cons g1 g2 =>
      obtain ⟨u1, u2⟩ := c'.unlock g1.2.1 hL
      exact ⟨u1, done D σ _ _ ⟨B', hs', u2, ho', hr', .cons rfl g2⟩⟩
  | some od =>
    refine .inr (core L od H _ hL c fun D H' s' => ?_)
    obtain ⟨B', hs', c', ho', hr', hst'⟩ := s'
    cases hst' with
    | cons g1 g2 => exact done D σ _ _ ⟨B', hs', c', ho', hr', .cons rfl g2⟩

/-! ### .. of an own dict, locked meanwhile -/
def oFz (a : Addr) (od : Obj) (kvs : List (Key × V)) (kqs : List (Key × R)) : Own := ⟨fun B h => h = sgl a (.frz od (.dK kvs)) ∧ AllK B kqs kvs, fun e ⟨h1, h2⟩ => ⟨h1, h2.mono e⟩⟩
theorem src_keysO {d : Addr} {od : Obj} {kvs : List (Key × V)} (hn : kqs.length = kvs.length) : SrcO L (Itk d od kvs) kqs.length (yK kqs) (fun os : List Own => ∃ j : Nat, os[j]? = some (oFz d od kvs kqs)) where
  go := fun {i B hs H os} hi c ho ⟨j, e⟩ => by
    obtain ⟨g, hg, rfl, hw⟩ := pget ho e
    exact ⟨c.own _ (c.mem hg) d _ sgl_same, by omega⟩
  stop := fun {B hs H os} c ho ⟨j, e⟩ => by
    obtain ⟨g, hg, rfl, hw⟩ := pget ho e
    exact ⟨c.own _ (c.mem hg) d _ sgl_same, by omega⟩
  yld := fun {i B hs H x H' os} hi c ho ⟨j, e⟩ y => by
    obtain ⟨g, hg, rfl, hw⟩ := pget ho e
    obtain ⟨rfl, k, v, e, rfl⟩ := y
    obtain ⟨b, hb, h1, _⟩ := pget hw (List.getElem?_eq_getElem hi)
    rw [e] at hb; cases hb
    refine ⟨B, Ex.refl B, c, ?_⟩
    unfold yK
    rw [List.getElem?_eq_getElem hi]
    show kV k = kV kqs[i].1
    rw [h1]
theorem k_lcKeysO [h : AtK os d kqs j] (hv : ∀ (od : Obj) (kvs : List (Key × V)) (gh : R) (K' : KK), Gk L rs (rA d :: gh :: st) (os.set j (oFz d od kvs kqs)) K' → Gk L rs (gh :: st) (os.set j (oFz d od kvs kqs)) (evk td K'))
    (p : Key × R → Bool) (r : Key × R → R) [w : WipeS rs vs rw] (rsI : Key × R → List (Option R)) (hn : kqs.length ≤ 10000) (hg : ∀ x, GOk g vs (rKey x.1) rw (rsI x))
    (turn : ∀ (od : Obj) (kvs : List (Key × V)) (x : Key × R), x ∈ kqs → ∀ (gx gx' : R) (D : Addr) (acc : List R) (K2 : Bool → KK), Gk L (rsI x) (gx :: gx' :: st) (oLs D acc :: os.set j (oFz d od kvs kqs)) (K2 (p x)) → Gk L (rsI x) (gx :: gx' :: st) (oLs D acc :: os.set j (oFz d od kvs kqs)) (tk tt K2))
    (elt : ∀ (od : Obj) (kvs : List (Key × V)) (x : Key × R), x ∈ kqs → p x = true → ∀ (gx gx' : R) (D : Addr) (acc : List R) (K' : KK), Gk L (rsI x) (r x :: gx :: gx' :: st) (oLs D acc :: os.set j (oFz d od kvs kqs)) K' → Gk L (rsI x) (gx :: gx' :: st) (oLs D acc :: os.set j (oFz d od kvs kqs)) (evk te K'))
    (done : ∀ D, Gk L rs (rA D :: st) (oLs D ((kqs.filter p).map r) :: os) K) : Gk L rs st os (evk (tLockEU (tLc (iKeys td) g tt te vs)) K) := fun σ us H s => by
  obtain ⟨B, hs, c, ho, hr, hst⟩ := s
  obtain ⟨gg, hgg, kvs, rfl, hk⟩ := pget ho h.e
  have hlen := AllK.len hk
  have hj : j < os.length := (List.getElem?_eq_some_iff.mp h.e).1
  have hH := c.own _ (c.mem hgg) d _ sgl_same
  refine .inl ⟨d, .dK kvs, hH, trivial, fun od => ?_⟩
  have c1 := c.mut (o' := .frz od (.dK kvs)) hgg
  have ho1 : Paired (fun O h => Own.p O B h) (os.set j (oFz d od kvs kqs)) (hs.set j (sgl d (.frz od (.dK kvs)))) := pset (F := fun (O : Own) h => O.p B h) (a := oFz d od kvs kqs) (b := sgl d (.frz od (.dK kvs))) ⟨rfl, hk⟩ j ho
  have back : ∀ {rs st σ us H' O}, S L rs st (O :: os.set j (oFz d od kvs kqs)) σ us H' → H' d = some (.frz od (.dK kvs)) ∧ S L rs st (O :: os) σ us (upd H' d (.dK kvs)) := fun {rs st σ us H' O} s => by
    obtain ⟨B, hs, c, ho, hr, hst⟩ := s
    have e1 : (O :: os.set j (oFz d od kvs kqs))[j + 1]? = some (oFz d od kvs kqs) := by
      rw [List.getElem?_cons_succ, List.getElem?_set_self hj]
    obtain ⟨g2, hg2, rfl, hk2⟩ := pget ho e1
    refine ⟨c.own _ (c.mem hg2) d _ sgl_same, B, _, c.mut hg2, ?_, hr, hst⟩
    have q := pset (F := fun (O : Own) h => O.p B h) (a := oDk d kqs) (b := sgl d (.dK kvs)) ⟨kvs, rfl, hk2⟩ (j + 1) ho
    rw [List.set_cons_succ, List.set_set] at q
    have e2 : os.set j (oDk d kqs) = os := by
      obtain ⟨hlt, hx⟩ := List.getElem?_eq_some_iff.mp h.e
      rw [← hx, List.set_getElem_self]
    rw [e2] at q
    exact q
  let Q : VK := fun v H' => H' d = some (.frz od (.dK kvs)) ∧ K σ (v :: us) (upd H' d (.dK kvs))
  show td σ (upd H d (.frz od (.dK kvs))) (fun v H2 => lcKk g tt te vs Q σ (v :: .non :: us) H2)
  have e : (fun (v : V) (H2 : Hp) => σ = σ ∧ (v :: .non :: us).tail = .non :: us → lcKk g tt te vs Q σ (v :: .non :: us) H2) = fun v H2 => lcKk g tt te vs Q σ (v :: .non :: us) H2 := by
    funext v H2
    exact propext ⟨fun h => h ⟨rfl, rfl⟩, fun h _ => h⟩
  rw [← e]
  refine hv od kvs rN (fun τ ws H2 => τ = σ ∧ ws.tail = .non :: us → lcKk g tt te vs Q τ ws H2) (fun τ ws H2 s2 et => ?_) σ (.non :: us) _ ⟨B, _, c1, ho1, hr, .cons rfl hst⟩
  obtain ⟨rfl, et⟩ := et
  obtain ⟨B2, hs2, c2, ho2, hr2, hst2⟩ := s2
  cases hst2 with
  | @cons _ x _ tl h1 h2 =>
    have et : tl = .non :: us := et
    subst et
    have e1 : (os.set j (oFz d od kvs kqs))[j]? = some (oFz d od kvs kqs) := List.getElem?_set_self hj
    obtain ⟨g2, hg2, rfl, hk2⟩ := pget ho2 e1
    refine ⟨d, od, h1, .inl ⟨kvs, c2.own _ (c2.mem hg2) d _ sgl_same, ?_⟩⟩
    refine lc_pureO (xs := kqs) (t := fun x => rKey x.1) (gh := rN) (src_keysO (L := L) (d := d) (od := od) hlen) (fun i x e => by unfold yK; rw [e]) p r rsI (fun l D => ⟨j + 1, by rw [List.getElem?_cons_succ]; exact e1⟩) hn w.e hg (fun x hx gx D acc K2 hh => turn od kvs x hx gx rN D acc K2 hh) (fun x hx hp gx D acc K' hh => elt od kvs x hx hp gx rN D acc K' hh) (st := rN :: st) (tl := .non :: us) (fun D H' s' => ?_) ⟨B2, hs2, c2, ho2, hr2, .cons rfl h2⟩
    obtain ⟨u1, B3, hs3, c3, ho3, hr3, hst3⟩ := back s'
    refine ⟨u1, ?_⟩
    cases hst3 with
    | cons g1 g2 =>
      cases g2 with
      | cons g3 g4 => exact done D τ _ _ ⟨B3, hs3, c3, ho3, hr3, .cons rfl g4⟩

/-! ### list(d) -/
def rLstD : List V → Hp → VK → Prop := fun xs H Q => ∃ (a : Addr) (kvs : List (Key × V)), xs = [.ref a] ∧ Rd H a (.dK kvs) ∧ ∀ p, H p = none → Q (.ref p) (upd H p (.lst (kvs.map fun kv => kV kv.1)))
theorem lstDU {X : Cx} (hc : X.calm = true) : CallR X (.type "list") rLstD := call_listD hc
theorem keys_all {B : Hp} : ∀ {kqs : List (Key × R)} {kvs : List (Key × V)}, AllK B kqs kvs → AllR B (kqs.map fun p => rKey p.1) (kvs.map fun kv => kV kv.1)
  | _, _, .nil => .nil
  | _, _, .cons a b => .cons (by show kV _ = kV _; rw [a.1]) (keys_all b)
theorem k_listD {q0 : R} [dk : DkR os q0 kqs] (h : Gk L rs (rLs (kqs.map fun p => rKey p.1) :: st) os K) : GA L rs [q0] st os (cbk rLstD K) := fun σ us vs H hl s => by
  obtain ⟨B, hs, c, ho, hr, h1, h2⟩ := S.args hl s
  obtain ⟨v, rfl, e⟩ := all1 h1
  obtain ⟨a, kvs, rfl, hrd, hk⟩ := dk.get c ho e
  refine ⟨a, kvs, rfl, hrd, fun p hp => h σ _ _ (newB c ho hr h2 hp ?_)⟩
  exact ⟨p, _, rfl, upd_same, AllR.mono (Ex.new (c.free hp)) (keys_all hk)⟩

/-! ### a finished instance whose dict is walked: both by their addresses -/
theorem AllF.pin {B : Hp} {f : Str} {q : R} {v : V} (hq : q.p B v) : ∀ {fl : List (Str × R)} {fs : List (Str × V)}, AllF B fl fs → fs.lookup f = some v → AllF B (putR f q fl) fs
  | _, _, .nil, e => by cases e
  | (n, r) :: fl, (m, w) :: fs, .cons ⟨h1, h2⟩ t, e => by
    cases h1
    by_cases z : n = f
    · show AllF B (if n = f then (n, q) :: fl else (n, r) :: putR f q fl) ((n, w) :: fs)
      rw [if_pos z]
      subst z
      rw [List.lookup_cons_self] at e
      cases e
      exact .cons ⟨rfl, hq⟩ t
    · show AllF B (if n = f then (n, q) :: fl else (n, r) :: putR f q fl) ((n, w) :: fs)
      rw [if_neg z]
      have e' : fs.lookup f = some v := by
        have zz : (f == n) = false := beq_eq_false_iff_ne.mpr (Ne.symm z)
        rw [List.lookup_cons, zz] at e
        exact e
      exact .cons ⟨rfl, h2⟩ (AllF.pin hq t e')
theorem k_pinD (i : Nat) {C : Addr} {fl : List (Str × R)} {f : Str} {r : R} [gr : GetR rs i r] (hr' : r = rIn C fl) (hl : fl.lookup f = some (rDk kqs)) (h : ∀ x d, Gk L (rs.set i (some (rA x))) st (oIs (.ref x) (rIn C (putR f (rA d) fl)) :: oIs (.ref d) (rDk kqs) :: os) K) : Gk L rs st os K := fun σ vs H s => by
  obtain ⟨B, hs, c, ho, hr, hst⟩ := s
  obtain ⟨b, hb, v, hv, ev⟩ := pget hr gr.e
  subst hv
  rw [hr'] at ev
  obtain ⟨x, dx, fs, rfl, hx, hfs⟩ := ev
  obtain ⟨w, e1, e2⟩ := hfs.look hl
  obtain ⟨d, kvs, rfl, hd, hk⟩ := id e2
  refine h x d σ vs H ⟨B, (fun _ => none) :: (fun _ => none) :: hs, (c.insE fun _ => rfl).insE fun _ => rfl, .cons ⟨fun _ => rfl, x, dx, fs, rfl, hx, AllF.pin (q := rA d) rfl hfs e1⟩ (.cons ⟨fun _ => rfl, e2⟩ ho), ?_, hst⟩
  have q := pset (F := slotOk B) (a := some (rA x)) (b := some (.ref x)) ⟨_, rfl, rfl⟩ i hr
  have hi : (σ.set i (some (.ref x))) = σ := by
    obtain ⟨hlt, hx⟩ := List.getElem?_eq_some_iff.mp hb
    rw [← hx, List.set_getElem_self]
  rw [hi] at q
  exact q
end
end G
/-! GL28: fields of own instances get what is known of their values; membership in pairs of texts; data. Own work. -/
namespace G
open PySem PySem.Spec PyProof.Rows L2
section
variable {L : Lk} {rs rs' : List (Option R)} {st : List R} {os os' : List Own} {K : KK} {D : Ends} {F : PySem.W.Frag} {q q0 : R} {a C : Addr} {j j2 : Nat} {v : V} {fl : List (Str × R)} {f : Str}
/-- a field of an own instance: what is known of its value -/
theorem k_upF (f : Str) [h : AtI os a C fl j] [hi : AtIs os v q j2] (hl : fl.lookup f = some (rV v)) [o : SetO os j (oIn a C (putR f q fl)) os'] (k : Gk L rs st os' K) : Gk L rs st os K := fun σ vs H s => by
  obtain ⟨B, hs, c, ho, hr, hst⟩ := s
  obtain ⟨g, hg, dx, fs, rfl, hf⟩ := pget ho h.e
  obtain ⟨w, e1, e2⟩ := hf.look hl
  have e2 : w = v := e2
  subst e2
  have hq := hi.get ho
  refine k σ vs H ⟨B, hs, c, ?_, hr, hst⟩
  have p := pset (F := fun (O : Own) h => O.p B h) (a := oIn a C (putR f q fl)) (b := sgl a (.ins C dx fs)) ⟨dx, fs, rfl, AllF.pin hq hf e1⟩ j ho
  rw [o.e] at p
  obtain ⟨hlt, hx⟩ := List.getElem?_eq_some_iff.mp hg
  rw [← hx, List.set_getElem_self] at p
  exact p
/-- x in (a, b), x in [a, b] -/
theorem k_inT2 {x a b : Str} (h : Gk L rs (rB (decide (x ∈ [a, b])) :: st) os K) : Gk L rs (rTp [rS a, rS b] :: rS x :: st) os (opk (rInU F) K) :=
  k_inTS (l := [a, b]) (sl := (inferInstance : StT F (rTp ([a, b].map rS)) ([a, b].map rS))) h
theorem k_inL2 {x a b : Str} (h : Gk L rs (rB (decide (x ∈ [a, b])) :: st) os K) : Gk L rs (rLs [rS a, rS b] :: rS x :: st) os (opk (rInU F) K) :=
  k_inLS (l := [a, b]) (sl := (inferInstance : SeqL F os (rLs ([a, b].map rS)) ([a, b].map rS))) h
theorem k_notInL2 {x a b : Str} (h : Gk L rs (rB (!decide (x ∈ [a, b])) :: st) os K) : Gk L rs (rLs [rS a, rS b] :: rS x :: st) os (opk (rNotInU F) K) :=
  k_notInLS (l := [a, b]) (sl := (inferInstance : SeqL F os (rLs ([a, b].map rS)) ([a, b].map rS))) h
end

/-! ### data -/
theorem dp_cur {K : PySem.W.Frag} {L : Lk} {B : Hp} {hs : List Hp} {H : Hp} (c : Cur L B hs H) : ∀ {v : V} {d : PyData}, Dp K B v d → Dp K H v d := by
  intro v d h
  refine Dp.rec (motive_1 := fun v d _ => Dp K H v d) (motive_2 := fun vs ds _ => DpAll K H vs ds) ?_ ?_ ?_ ?_ ?_ ?_ ?_ ?_ h
  · exact .non
  · exact fun b => .bl b
  · exact fun i => .int i
  · exact fun x => .str x
  · exact fun a b ih => .lst (c.sqL a) ih
  · exact fun a b ih => .tup (c.sqT a) ih
  · exact .nil
  · exact fun _ _ h1 h2 => .cons h1 h2
class DatR (F : PySem.W.Frag) (q : R) (d : outParam PyData) : Prop where
  get : ∀ {B : Hp} {v : V}, q.p B v → Dp F B v d
class DatRs (F : PySem.W.Frag) (qs : List R) (ds : outParam (List PyData)) : Prop where
  get : ∀ {B : Hp} {vs : List V}, AllR B qs vs → DpAll F B vs ds
section
variable {F : PySem.W.Frag}
instance {i : Int} : DatR F (rI i) (.int i) := ⟨fun {B v} h => by rw [show v = V.int i from h]; exact .int i⟩
instance {b : Bool} : DatR F (rB b) (.bool b) := ⟨fun {B v} h => by rw [show v = V.bl b from h]; exact .bl b⟩
instance {x : Str} : DatR F (rS x) (.str x) := ⟨fun {B v} h => by rw [show v = V.str x from h]; exact .str x⟩
instance : DatR F rN .none := ⟨fun {B v} h => by rw [show v = V.non from h]; exact .non⟩
instance : DatRs F [] [] := ⟨fun h => by cases h; exact .nil⟩
instance {q : R} {qs : List R} {d : PyData} {ds : List PyData} [h : DatR F q d] [t : DatRs F qs ds] : DatRs F (q :: qs) (d :: ds) := ⟨fun {B vs} h => by
  cases h with
  | cons a b => exact .cons (DatR.get a) (t.get b)⟩
instance {qs : List R} {ds : List PyData} [h : DatRs F qs ds] : DatR F (rLs qs) (.list ds) := ⟨fun {B v} ⟨a, vs, e, h1, h2⟩ => by subst e; exact .lst (.of h1) (h.get h2)⟩
instance {qs : List R} {ds : List PyData} [h : DatRs F qs ds] : DatR F (rTp qs) (.tuple ds) := ⟨fun {B v} ⟨a, vs, e, h1, h2⟩ => by subst e; exact .tup (.of h1) (h.get h2)⟩
theorem datMap {α : Type} {t : α → R} {f : α → PyData} (h : ∀ x, DatR F (t x) (f x)) : ∀ xs : List α, DatRs F (xs.map t) (xs.map f)
  | [] => inferInstanceAs (DatRs F [] [])
  | x :: xs => by
    haveI := h x
    haveI := datMap h xs
    exact inferInstanceAs (DatRs F (t x :: xs.map t) (f x :: xs.map f))
instance {xs : List Int} : DatRs F (xs.map rI) (xs.map PyData.int) := datMap (fun x => inferInstance) xs
instance {xs : List Str} : DatRs F (xs.map rS) (xs.map PyData.str) := datMap (fun x => inferInstance) xs
end
section
variable {L : Lk} {rs : List (Option R)} {st : List R} {os : List Own} {K : KK} {F : PySem.W.Frag} {q1 q2 : R} {d1 d2 : PyData}
theorem k_eqD [h1 : DatR F q1 d1] [h2 : DatR F q2 d2] (s1 : SeqAt.shaped d1 = true) (s2 : SeqAt.shaped d2 = true) (h : Gk L rs (rB (PyData.eqv d1 d2) :: st) os K) : Gk L rs (q2 :: q1 :: st) os (opk (rEqU F) K) :=
  k_op1 (fun B hs H x y c hx hy => ⟨.bl (PyData.eqv d1 d2), rfl, fun Q z => .inr ⟨d1, d2, dp_cur c (h1.get hx), dp_cur c (h2.get hy), s1, s2, z⟩⟩) h
theorem k_neD [h1 : DatR F q1 d1] [h2 : DatR F q2 d2] (s1 : SeqAt.shaped d1 = true) (s2 : SeqAt.shaped d2 = true) (h : Gk L rs (rB (!PyData.eqv d1 d2) :: st) os K) : Gk L rs (q2 :: q1 :: st) os (opk (rNeU F) K) :=
  k_op1 (fun B hs H x y c hx hy => ⟨.bl (!PyData.eqv d1 d2), rfl, fun Q z => .inr ⟨d1, d2, dp_cur c (h1.get hx), dp_cur c (h2.get hy), s1, s2, z⟩⟩) h
end
end G
/-! DF: standings, weavings, webs that are finished. Own work. -/
namespace W
open PySem PySem.Spec PyProof.Rows L2 C8 G
section
variable {L : Lk} {rs : List (Option R)} {st : List R} {fr : List Own} {K : KK} {F : PySem.W.Frag}
theorem k_factStand {d : StA} (h : Gk L rs st (oIs (.ref d.x) (rStand F d.ms d.rows d.ts d.st) :: fr) K) : Gk L rs st (stO F d ++ fr) K := by
  obtain ⟨ms, rows, ts, s, y, pm, ph⟩ := d
  show Gk L rs st (oIn y (He.ga F "Standing") (standG F ms rows ts pm ph s.lo) :: oDk pm (modesKV s) :: oDk ph (holdsKV s) :: fr) K
  refine k_frzK (a := pm) ?_
  refine k_frzK (a := ph) ?_
  refine k_upF "_modes" (a := y) (v := .ref pm) rfl ?_
  refine k_upF "_holds" (a := y) (v := .ref ph) rfl ?_
  refine k_frzI (a := y) ?_
  refine k_forget 1 ?_
  refine k_forget 1 ?_
  exact h
theorem k_factWv {d : WvD} {a : WvA} (h : Gk L rs st (oIs (.ref a.x) (rWv F d) :: fr) K) : Gk L rs st (wvO F d a ++ fr) K := by
  obtain ⟨x, pe, ps, pl, pd⟩ := a
  show Gk L rs st (oIn x (He.ga F "Weaving") (wvG F d ⟨x, pe, ps, pl, pd⟩) :: oLs pe (d.evs.map rEv) :: oDk ps (standsKV F d.ms d.rows d.ts d.evs) :: oDk pl (lockersKV d.evs) :: oDt pd (edgesKV d.ed) :: fr) K
  refine k_frzLi (a := pe) ?_
  refine k_frzK (a := ps) ?_
  refine k_frzK (a := pl) ?_
  refine k_frzDt (a := pd) ?_
  refine k_upF "_events" (a := x) (v := .ref pe) rfl ?_
  refine k_upF "_standings" (a := x) (v := .ref ps) rfl ?_
  refine k_upF "_lockers" (a := x) (v := .ref pl) rfl ?_
  refine k_upF "_edges" (a := x) (v := .ref pd) rfl ?_
  refine k_frzI (a := x) ?_
  refine k_forget 1 ?_
  refine k_forget 1 ?_
  refine k_forget 1 ?_
  refine k_forget 1 ?_
  exact h
theorem k_factWeb {ms : List Str} {rows : List Row} {ts : List Thing} {x pr pn : Addr} (h : Gk L rs st (oIs (.ref x) (rWeb F ms rows ts) :: fr) K) : Gk L rs st (oIn x (He.ga F "Web") (webG F ms rows pr pn) :: oLs pr (ts.map rWRow) :: oLs pn ((nums ts.length).map G.rI) :: fr) K := by
  refine k_frzLi (a := pr) ?_
  refine k_frzLi (a := pn) ?_
  refine k_upF "_rows" (a := x) (v := .ref pr) rfl ?_
  refine k_upF "_numbers" (a := x) (v := .ref pn) rfl ?_
  refine k_frzI (a := x) ?_
  refine k_forget 1 ?_
  refine k_forget 1 ?_
  exact h
end
/-! ### a lock that is added -/
theorem run_lk {ts : List Thing} {evs : List Ev} (r : Run ts evs) {x : Ev} (hx : x ∈ evs) (hk : isLk x = true) : stF evs x.name x.step.thing ≠ 0 := by
  intro h0
  have hm : x.step.thing ∈ (stOf evs x.name).locks.map Prod.fst := by
    unfold stOf
    rw [List.map_map]
    exact List.mem_map.mpr ⟨x, List.mem_filter.mpr ⟨hx, by simp [hk]⟩, rfl⟩
  cases run_st r x.name x.step.thing with
  | none h1 h2 h3 => exact h2 hm
  | held d h1 h2 h3 => omega
  | gone d h1 h2 h3 => omega
theorem edge_add {ts : List Thing} {evs : List Ev} {e : Ev} (r : Run ts evs) (l : Legal ts evs e) (hk : isLk e = true) {a b : Int} : Edge (evs ++ [e]) a b ↔ Edge evs a b ∨ (b = e.name ∧ ∃ d, (a, d) ∈ lksOf evs e.step.thing ∧ (d = .own ∨ e.step.deed = .own)) := by
  rw [Edge_snoc]
  refine or_congr Iff.rfl ?_
  constructor
  · rintro ⟨x, hx, rfl, rfl, c⟩
    exact ⟨rfl, x.step.deed, mem_lksOf.mpr ⟨x, hx, c.lk1, c.thing, rfl, rfl⟩, c.own⟩
  · rintro ⟨rfl, d, hd, ho⟩
    obtain ⟨x, hx, h1, h2, h3, h4⟩ := mem_lksOf.mp hd
    refine ⟨x, hx, h3, rfl, fun q => ?_, h2, h1, hk, by rw [h4]; exact ho⟩
    have := run_lk r hx h1
    rw [q, h2] at this
    exact this (l.lock (isLk_iff.mp hk))
theorem edge_drop {evs : List Ev} {e : Ev} (hk : isLk e = false) {a b : Int} : Edge (evs ++ [e]) a b ↔ Edge evs a b := by
  rw [Edge_snoc]
  constructor
  · rintro (h | ⟨x, _, _, _, c⟩)
    · exact h
    · have q := c.lk2
      rw [hk] at q; cases q
  · exact Or.inl
theorem takeS_stOf {evs : List Ev} {e : Ev} : takeS (stOf evs e.name) e.step = stOf (evs ++ [e]) e.name := by
  unfold takeS
  by_cases h : e.step.deed = .drop
  · rw [if_pos h, stOf_drop (by unfold isLk; simp [h])]
  · rw [if_neg h, stOf_lock (isLk_iff.mpr h)]
/-! ### weavings, own or finished -/
def wvR (K : PySem.W.Frag) (w : WvD) : Option WvA → R
  | none => rWv K w
  | some a => rA a.x
def wvU (K : PySem.W.Frag) (w : WvD) : Option WvA → List Own
  | none => []
  | some a => wvO K w a
/-- the names, ascending -/
structure Asc (evs : List Ev) (ns : List Int) : Prop where
  perm : ns.Perm (namesOf evs)
  asc : ns.Pairwise (· ≤ ·)
theorem Asc.len {evs : List Ev} {ns : List Int} (h : Asc evs ns) : ns.length ≤ evs.length := by
  have := h.perm.length_eq
  have := namesOf_len evs
  omega
def EdOk (evs : List Ev) (ed : List (Int × Int)) : Prop := (∀ a b, (a, b) ∈ ed ↔ Edge evs a b) ∧ ed.length ≤ 50 * evs.length
def pairsOf (ns ms : List Int) : List (Int × Int) := ns.flatMap fun a => ms.map fun b => (a, b)
abbrev rPr (p : Int × Int) : R := rTp [G.rI p.1, G.rI p.2]
theorem pairsOf_len (ns ms : List Int) : (pairsOf ns ms).length = ns.length * ms.length := by
  unfold pairsOf
  induction ns with
  | nil => simp
  | cons a l ih => rw [List.flatMap_cons, List.length_append, ih, List.length_map, List.length_cons, Nat.succ_mul]; omega
theorem pairsOf_snoc (ns ms : List Int) (a : Int) : pairsOf (ns ++ [a]) ms = pairsOf ns ms ++ ms.map fun b => (a, b) := by
  unfold pairsOf
  rw [List.flatMap_append]; simp
theorem mem_pairsOf {ns ms : List Int} {p : Int × Int} : p ∈ pairsOf ns ms ↔ p.1 ∈ ns ∧ p.2 ∈ ms := by
  unfold pairsOf
  rw [List.mem_flatMap]
  constructor
  · rintro ⟨a, h1, h2⟩
    obtain ⟨b, h3, rfl⟩ := List.mem_map.mp h2
    exact ⟨h1, h3⟩
  · rintro ⟨h1, h2⟩
    exact ⟨p.1, h1, List.mem_map.mpr ⟨p.2, h2, rfl⟩⟩
end W
/-! DG: plain data: what is compared. Own work. -/
namespace W
open PySem PySem.Spec PyProof.Rows L2 C8 G

structure Shp (n : Nat) (d : PyData) : Prop where
  lay : d.canLay0 = true
  dep : d.depth ≤ n
theorem Shp.shaped {n : Nat} {d : PyData} (h : Shp n d) (hn : n ≤ 64) : SeqAt.shaped d = true := by
  unfold SeqAt.shaped
  rw [h.lay, decide_eq_true (Nat.le_trans h.dep hn)]; rfl
theorem shp_all {n : Nat} : ∀ {ds : List PyData}, (∀ d ∈ ds, Shp n d) → PyData.canLayAll0 ds = true ∧ PyData.depthAll ds ≤ n
  | [], _ => ⟨rfl, Nat.zero_le _⟩
  | d :: ds, h => by
    obtain ⟨h1, h2⟩ := shp_all (ds := ds) fun x hx => h x (List.mem_cons_of_mem _ hx)
    have h3 := h d List.mem_cons_self
    refine ⟨?_, ?_⟩
    · rw [PyData.canLayAll0, h3.lay, h1]; rfl
    · rw [PyData.depthAll]
      have := h3.dep
      omega
theorem shp_list {n : Nat} {ds : List PyData} (h : ∀ d ∈ ds, Shp n d) : Shp (n + 1) (.list ds) := by
  obtain ⟨h1, h2⟩ := shp_all h
  exact ⟨by rw [PyData.canLay0]; exact h1, by rw [PyData.depth]; omega⟩
theorem shp_tup {n : Nat} {ds : List PyData} (h : ∀ d ∈ ds, Shp n d) : Shp (n + 1) (.tuple ds) := by
  obtain ⟨h1, h2⟩ := shp_all h
  exact ⟨by rw [PyData.canLay0]; exact h1, by rw [PyData.depth]; omega⟩
theorem shp_int {n : Nat} (i : Int) : Shp n (.int i) := ⟨by rw [PyData.canLay0], by rw [PyData.depth]; omega⟩
theorem shp_bool {n : Nat} (b : Bool) : Shp n (.bool b) := ⟨by rw [PyData.canLay0], by rw [PyData.depth]; omega⟩
theorem shp_str {n : Nat} {x : Str} (h : PyData.strOk x = true) : Shp n (.str x) := ⟨by rw [PyData.canLay0]; exact h, by rw [PyData.depth]; omega⟩
theorem mk_strOk {x : Str} (h : isMk x) : PyData.strOk x = true := by
  have hm : ∀ c ∈ x.cps.toList, c < 128 := fun c hc => by
    have := h.2 c hc
    unfold Ltr at this
    rw [abc_eq] at this
    obtain ⟨i, hi, rfl⟩ := List.mem_map.mp this
    have := List.mem_range.mp hi
    omega
  unfold PyData.strOk
  rw [Array.all_eq_true]
  intro i hi
  have := hm _ (Array.getElem_mem_toList hi)
  simp only [decide_eq_true_eq]
  omega

mutual
def noB : PyData → Bool
  | .int _ | .str _ => true
  | .list xs | .tuple xs => noBs xs
  | .none | .bool _ | .dict _ => false
def noBs : List PyData → Bool
  | [] => true
  | x :: xs => noB x && noBs xs
end
mutual
theorem eqv_iff : ∀ d e : PyData, noB d = true → noB e = true → (PyData.eqv d e = true ↔ d = e)
  | .int i, .int j, _, _ => by rw [PyData.eqv]; simp
  | .str x, .str y, _, _ => by rw [PyData.eqv]; simp
  | .list xs, .list ys, h, k => by
    rw [PyData.eqv, eqvAll_iff xs ys (by simpa [noB] using h) (by simpa [noB] using k)]; simp
  | .tuple xs, .tuple ys, h, k => by
    rw [PyData.eqv, eqvAll_iff xs ys (by simpa [noB] using h) (by simpa [noB] using k)]; simp
  | .int _, .str _, _, _ => by rw [PyData.eqv]; simp
  | .int _, .list _, _, _ => by rw [PyData.eqv]; simp
  | .int _, .tuple _, _, _ => by rw [PyData.eqv]; simp
  | .str _, .int _, _, _ => by rw [PyData.eqv]; simp
  | .str _, .list _, _, _ => by rw [PyData.eqv]; simp
  | .str _, .tuple _, _, _ => by rw [PyData.eqv]; simp
  | .list _, .int _, _, _ => by rw [PyData.eqv]; simp
  | .list _, .str _, _, _ => by rw [PyData.eqv]; simp
  | .list _, .tuple _, _, _ => by rw [PyData.eqv]; simp
  | .tuple _, .int _, _, _ => by rw [PyData.eqv]; simp
  | .tuple _, .str _, _, _ => by rw [PyData.eqv]; simp
  | .tuple _, .list _, _, _ => by rw [PyData.eqv]; simp
  | .none, _, h, _ => by simp [noB] at h
  | .bool _, _, h, _ => by simp [noB] at h
  | .dict _, _, h, _ => by simp [noB] at h
  | _, .none, _, h => by simp [noB] at h
  | _, .bool _, _, h => by simp [noB] at h
  | _, .dict _, _, h => by simp [noB] at h
theorem eqvAll_iff : ∀ xs ys : List PyData, noBs xs = true → noBs ys = true → (PyData.eqvAll xs ys = true ↔ xs = ys)
  | [], [], _, _ => by simp [PyData.eqvAll]
  | [], _ :: _, _, _ => by simp [PyData.eqvAll]
  | _ :: _, [], _, _ => by simp [PyData.eqvAll]
  | x :: xs, y :: ys, h, k => by
    have h' : noB x = true ∧ noBs xs = true := by simpa [noBs] using h
    have k' : noB y = true ∧ noBs ys = true := by simpa [noBs] using k
    rw [PyData.eqvAll, Bool.and_eq_true, eqv_iff x y h'.1 k'.1, eqvAll_iff xs ys h'.2 k'.2]
    simp
end
theorem noBs_all : ∀ {ds : List PyData}, (∀ d ∈ ds, noB d = true) → noBs ds = true
  | [], _ => rfl
  | d :: ds, h => by rw [noBs, h d List.mem_cons_self, noBs_all fun x hx => h x (List.mem_cons_of_mem _ hx)]; rfl

/-! ### the rows of shapes, webs -/
def rowD (r : Row) : PyData := .tuple [.str r.mark, .tuple (r.parents.map .str), .int r.least, .int r.most, .bool r.shared]
def wrowD (t : Thing) : PyData := .tuple [.str t.mark, .tuple (t.parents.map .int)]
section
variable {F : PySem.W.Frag}
instance {r : Row} : DatR F (rRowT r) (rowD r) := inferInstanceAs (DatR F (rTp [rS r.mark, rTp (r.parents.map rS), G.rI r.least, G.rI r.most, rB r.shared]) _)
instance {t : Thing} : DatR F (rWRow t) (wrowD t) := inferInstanceAs (DatR F (rTp [rS t.mark, rTp (t.parents.map G.rI)]) _)
instance {rows : List Row} : DatRs F (rows.map rRowT) (rows.map rowD) := datMap (fun _ => inferInstance) rows
instance {ts : List Thing} : DatRs F (ts.map rWRow) (ts.map wrowD) := datMap (fun _ => inferInstance) ts
end
theorem shp_rows {ms : List Str} {rows : List Row} (h : RowsOk ms rows) : Shp 3 (.list (rows.map rowD)) := by
  refine shp_list fun d hd => ?_
  obtain ⟨r, hr, rfl⟩ := List.mem_map.mp hd
  have hm : ∀ m ∈ r.parents, isMk m := fun m hm => h.isMk m ((h.par r hr).subset hm)
  have hk : isMk r.mark := h.isMk _ (by rw [← h.marks]; exact List.mem_map.mpr ⟨r, hr, rfl⟩)
  refine shp_tup fun d hd => ?_
  simp only [List.mem_cons, List.not_mem_nil, or_false] at hd
  rcases hd with rfl | rfl | rfl | rfl | rfl
  · exact shp_str (mk_strOk hk)
  · refine shp_tup fun d hd => ?_
    obtain ⟨m, h1, rfl⟩ := List.mem_map.mp hd
    exact shp_str (mk_strOk (hm m h1))
  · exact shp_int _
  · exact shp_int _
  · exact shp_bool _
theorem shp_things {ms : List Str} {rows : List Row} {ts : List Thing} (hr : RowsOk ms rows) (h : ThingsOk rows ts) : Shp 3 (.list (ts.map wrowD)) := by
  refine shp_list fun d hd => ?_
  obtain ⟨t, ht, rfl⟩ := List.mem_map.mp hd
  obtain ⟨k, hk⟩ := List.getElem?_of_mem ht
  have hm : isMk t.mark := by
    have hlt := (List.getElem?_eq_some_iff.mp hk).1
    have := h.mark hr hlt
    rw [List.getD_eq_getElem?_getD, hk] at this
    exact hr.isMk _ this
  refine shp_tup fun d hd => ?_
  simp only [List.mem_cons, List.not_mem_nil, or_false] at hd
  rcases hd with rfl | rfl
  · exact shp_str (mk_strOk hm)
  · refine shp_tup fun d hd => ?_
    obtain ⟨m, h1, rfl⟩ := List.mem_map.mp hd
    exact shp_int _
theorem noB_things (ts : List Thing) : noB (.list (ts.map wrowD)) = true := by
  rw [noB]
  refine noBs_all fun d hd => ?_
  obtain ⟨t, ht, rfl⟩ := List.mem_map.mp hd
  have : noBs (t.parents.map PyData.int) = true := noBs_all fun d hd => by
    obtain ⟨m, h1, rfl⟩ := List.mem_map.mp hd
    rw [noB]
  simp [wrowD, noB, noBs, this]
/-- what is equal of two webs over one shape -/
def sameT (ts us : List Thing) : Prop := ts.map (fun t => (t.mark, t.parents)) = us.map fun t => (t.mark, t.parents)
theorem map_inj {α β : Type} {f : α → β} (hf : ∀ a b, f a = f b → a = b) : ∀ {xs ys : List α}, xs.map f = ys.map f → xs = ys
  | [], [], _ => rfl
  | [], _ :: _, h => nomatch h
  | _ :: _, [], h => nomatch h
  | x :: xs, y :: ys, h => by
    injection h with h1 h2
    rw [hf x y h1, map_inj hf h2]
theorem eqv_things {ts us : List Thing} : PyData.eqv (.list (ts.map wrowD)) (.list (us.map wrowD)) = true ↔ sameT ts us := by
  rw [eqv_iff _ _ (noB_things ts) (noB_things us)]
  unfold sameT
  have e : ∀ l : List Thing, l.map wrowD = (l.map fun t => (t.mark, t.parents)).map fun p => PyData.tuple [.str p.1, .tuple (p.2.map .int)] := fun l => by rw [List.map_map]; rfl
  rw [PyData.list.injEq, e ts, e us]
  constructor
  · refine map_inj fun a b h => ?_
    injection h with h
    injection h with h1 h2
    injection h1 with h1
    injection h2 with h2 h3
    injection h2 with h2
    exact Prod.ext h1 (map_inj (fun x y z => by injection z) h2)
  · intro h; rw [h]
end W
/-! DH: parts of the events. Own work. -/
namespace W
open PySem PySem.Spec PyProof.Rows L2 C8 G
theorem run_pre {ts : List Thing} {evs : List Ev} (r : Run ts evs) {j : Nat} {e : Ev} (h : evs[j]? = some e) : Run ts (evs.take j) ∧ Legal ts (evs.take j) e := by
  induction r with
  | nil => simp at h
  | @snoc evs e0 r l ih =>
    by_cases z : j < evs.length
    · rw [List.getElem?_append_left z] at h
      rw [List.take_append_of_le_length (by omega)]
      exact ih h
    · rw [List.getElem?_append_right (by omega)] at h
      have hj : j = evs.length := by
        cases q : j - evs.length with
        | zero => omega
        | succ n => rw [q] at h; simp at h
      subst hj
      rw [Nat.sub_self] at h
      cases h
      rw [List.take_left']
      · exact ⟨r, l⟩
      · rfl
def partE (evs : List Ev) (ns : List Int) : List Ev := evs.filter fun e => decide (e.name ∈ ns)
theorem partE_snoc (evs : List Ev) (e : Ev) (ns : List Int) : partE (evs ++ [e]) ns = if e.name ∈ ns then partE evs ns ++ [e] else partE evs ns := by
  unfold partE
  rw [List.filter_append]
  split
  · rename_i h; rw [List.filter_cons_of_pos (by simpa using h), List.filter_nil]
  · rename_i h; rw [List.filter_cons_of_neg (by simpa using h), List.filter_nil, List.append_nil]
theorem partE_len {evs : List Ev} {ns : List Int} : (partE evs ns).length ≤ evs.length := List.length_filter_le _ _
theorem part_stF (evs : List Ev) (ns : List Int) (k t : Int) : stF (partE evs ns) k t = if k ∈ ns then stF evs k t else 0 := by
  induction evs using snoc_ind with
  | h0 => simp [partE, stF_nil]
  | hs l e ih =>
    rw [partE_snoc, stF_snoc]
    by_cases hn : e.name ∈ ns
    · rw [if_pos hn, stF_snoc, ih]
      unfold stOp
      by_cases hk : k ∈ ns
      · rw [if_pos hk, if_pos hk]
      · have : ¬ (e.name = k ∧ e.step.thing = t) := fun q => hk (q.1 ▸ hn)
        rw [if_neg hk, if_neg hk, if_neg this]
    · rw [if_neg hn, ih]
      by_cases hk : k ∈ ns
      · have : ¬ (e.name = k ∧ e.step.thing = t) := fun q => hn (q.1 ▸ hk)
        unfold stOp
        rw [if_pos hk, if_pos hk, if_neg this]
      · rw [if_neg hk, if_neg hk]
theorem part_legal {ts : List Thing} {evs : List Ev} {e : Ev} {ns : List Int} (l : Legal ts evs e) (hn : e.name ∈ ns) : Legal ts (partE evs ns) e where
  thing := l.thing
  drop := fun h => by rw [part_stF, if_pos hn]; exact l.drop h
  lock := fun h => by rw [part_stF, if_pos hn]; exact l.lock h
  share := l.share
  own2 := fun h k hk => by
    rw [part_stF]
    split
    · exact l.own2 h k hk
    · omega
  share2 := fun h k hk => by
    rw [part_stF]
    split
    · exact l.share2 h k hk
    · omega
theorem part_run {ts : List Thing} {evs : List Ev} {ns : List Int} (r : Run ts evs) : Run ts (partE evs ns) := by
  induction r with
  | nil => exact .nil
  | @snoc evs e r l ih =>
    rw [partE_snoc]
    split
    · rename_i hn
      exact .snoc ih (part_legal l hn)
    · exact ih
/-- a row of names: a list, a tuple -/
def rNs (b : Bool) (ns : List Int) : R := if b = true then rTp (ns.map G.rI) else rLs (ns.map G.rI)
theorem k_inNs {L : Lk} {rs : List (Option R)} {st : List R} {os : List Own} {K : KK} {F : PySem.W.Frag} {b : Bool} {n : Int} {ns : List Int} (h : Gk L rs (rB (decide (n ∈ ns)) :: st) os K) : Gk L rs (rNs b ns :: G.rI n :: st) os (opk (rInU F) K) := by
  cases b with
  | true => exact k_inTI (sl := inferInstanceAs (StT F (rTp (ns.map G.rI)) _)) h
  | false => exact k_inLI (sl := inferInstanceAs (SeqL F os (rLs (ns.map G.rI)) _)) h
theorem k_notInNs {L : Lk} {rs : List (Option R)} {st : List R} {os : List Own} {K : KK} {F : PySem.W.Frag} {b : Bool} {n : Int} {ns : List Int} (h : Gk L rs (rB (!decide (n ∈ ns)) :: st) os K) : Gk L rs (rNs b ns :: G.rI n :: st) os (opk (rNotInU F) K) := by
  cases b with
  | true => exact k_notInTI (sl := inferInstanceAs (StT F (rTp (ns.map G.rI)) _)) h
  | false => exact k_notInLI (sl := inferInstanceAs (SeqL F os (rLs (ns.map G.rI)) _)) h
theorem nodup_lenI {ks ms : List Int} (h : ks.Nodup) (hs : ∀ k ∈ ks, k ∈ ms) : ks.length ≤ ms.length := by
  induction ks generalizing ms with
  | nil => exact Nat.zero_le _
  | cons k ks ih =>
    have h := List.nodup_cons.mp h
    have hk := hs k List.mem_cons_self
    have := ih (ms := ms.erase k) h.2 fun x hx => (List.mem_erase_of_ne (fun e => by rw [e] at hx; exact h.1 hx)).mpr (hs x (List.mem_cons_of_mem _ hx))
    rw [List.length_erase_of_mem hk] at this
    have := List.length_pos_of_mem hk
    show ks.length + 1 ≤ _
    omega
theorem reads_name {evs : List Ev} {r : Rd3} (h : r ∈ readsOf evs) : r.name ∈ namesOf evs := by
  induction evs using snoc_ind with
  | h0 => simp [readsOf] at h
  | hs l e ih =>
    rw [readsOf_snoc] at h
    rw [namesOf_snoc, mem_addN]
    rcases List.mem_append.mp h with h | h
    · exact .inl (ih h)
    · split at h
      · rw [List.mem_singleton.mp h]; exact .inr rfl
      · cases h
/-- a set of names that the reads do not lead out of -/
def Closed (rd : List Rd3) (S : List Int) : Prop := ∀ r ∈ rd, r.src ∈ S → r.name ∈ S
/-- the least set of names with events, with the chosen ones, that is closed -/
structure FolOk (evs : List Ev) (ns : List Int) (e : List Int) : Prop where
  asc : e.Pairwise (· ≤ ·)
  nd : e.Nodup
  base : ∀ n ∈ namesOf evs, n ∈ ns → n ∈ e
  clo : Closed (readsOf evs) e
  least : ∀ S : List Int, (∀ n ∈ namesOf evs, n ∈ ns → n ∈ S) → Closed (readsOf evs) S → ∀ n ∈ e, n ∈ S
/-- .. on the way -/
structure FolAt (evs : List Ev) (ns : List Int) (e : List Int) : Prop where
  nd : e.Nodup
  sub : ∀ n ∈ e, n ∈ namesOf evs
  base : ∀ n ∈ namesOf evs, n ∈ ns → n ∈ e
  least : ∀ S : List Int, (∀ n ∈ namesOf evs, n ∈ ns → n ∈ S) → Closed (readsOf evs) S → ∀ n ∈ e, n ∈ S
theorem FolAt.start (evs : List Ev) (ns : List Int) : FolAt evs ns ((namesOf evs).filter fun n => decide (n ∈ ns)) where
  nd := List.Pairwise.sublist List.filter_sublist (namesOf_nodup evs)
  sub := fun n h => (List.mem_filter.mp h).1
  base := fun n h1 h2 => List.mem_filter.mpr ⟨h1, by simpa using h2⟩
  least := fun S h _ n hn => h n (List.mem_filter.mp hn).1 (by simpa using (List.mem_filter.mp hn).2)
theorem FolAt.add {evs : List Ev} {ns e : List Int} (h : FolAt evs ns e) {r : Rd3} (hr : r ∈ readsOf evs) (h1 : r.src ∈ e) (h2 : r.name ∉ e) : FolAt evs ns (e ++ [r.name]) where
  nd := by
    rw [List.nodup_append]
    exact ⟨h.nd, by simp, fun a ha b hb q => h2 (by rw [← (List.mem_singleton.mp hb), ← q]; exact ha)⟩
  sub := fun n hn => by
    rcases List.mem_append.mp hn with z | z
    · exact h.sub n z
    · rw [List.mem_singleton.mp z]; exact reads_name hr
  base := fun n q1 q2 => List.mem_append_left _ (h.base n q1 q2)
  least := fun S hb hc n hn => by
    rcases List.mem_append.mp hn with z | z
    · exact h.least S hb hc n z
    · rw [List.mem_singleton.mp z]; exact hc r hr (h.least S hb hc _ h1)
theorem FolAt.fin {evs : List Ev} {ns e f : List Int} (h : FolAt evs ns e) (c : Closed (readsOf evs) e) (p : f.Perm e) (a : f.Pairwise (· ≤ ·)) : FolOk evs ns f where
  asc := a
  nd := p.nodup_iff.mpr h.nd
  base := fun n q1 q2 => p.mem_iff.mpr (h.base n q1 q2)
  clo := fun r hr hs => p.mem_iff.mpr (c r hr (p.mem_iff.mp hs))
  least := fun S hb hc n hn => h.least S hb hc n (p.mem_iff.mp hn)
theorem FolAt.len {evs : List Ev} {ns e : List Int} (h : FolAt evs ns e) : e.length ≤ (namesOf evs).length := nodup_lenI h.nd h.sub
end W
/-! DI: membership of data in lists; edges as the laws tell them. Own work. -/
namespace W
open PySem PySem.Spec PyProof.Rows L2 C8 G
section
variable {L : Lk} {rs : List (Option R)} {st : List R} {os : List Own} {K : KK} {F : PySem.W.Frag} {q0 : R} {α : Type} {t : α → R} {f : α → PyData} {xs : List α} {x : α} [dm : Decidable (x ∈ xs)]
theorem any_eqv (hi : ∀ x y, PyData.eqv (f x) (f y) = true ↔ x = y) : ((xs.map f).any fun z => PyData.eqv z (f x)) = decide (x ∈ xs) := by
  by_cases h : x ∈ xs
  · rw [decide_eq_true h, List.any_eq_true]
    exact ⟨f x, List.mem_map.mpr ⟨x, h, rfl⟩, (hi x x).mpr rfl⟩
  · rw [decide_eq_false h]
    cases q : (xs.map f).any fun z => PyData.eqv z (f x) with
    | false => rfl
    | true =>
      obtain ⟨z, hz, e⟩ := List.any_eq_true.mp q
      obtain ⟨y, hy, rfl⟩ := List.mem_map.mp hz
      exact absurd ((hi y x).mp e ▸ hy) h
theorem dp_all {L : Lk} {B : Hp} {hs : List Hp} {H : Hp} (c : Cur L B hs H) : ∀ {vs : List V} {ds : List PyData}, DpAll F B vs ds → DpAll F H vs ds
  | _, _, .nil => .nil
  | _, _, .cons a b => .cons (dp_cur c a) (dp_all c b)
theorem k_inDp [sl : SeqL F os q0 (xs.map t)] (hd : ∀ x, DatR F (t x) (f x)) (hs : ∀ x, Shp 60 (f x)) (hi : ∀ x y, PyData.eqv (f x) (f y) = true ↔ x = y) (h : Gk L rs (rB (decide (x ∈ xs)) :: st) os K) : Gk L rs (q0 :: t x :: st) os (opk (rInU F) K) := fun σ us H s => by
  obtain ⟨B, hs', c, ho, hr, hst⟩ := s
  cases hst with
  | @cons _ y _ _ h1 h2 =>
    cases h2 with
    | @cons _ z _ tl h3 h4 =>
      obtain ⟨a, vs, rfl, hq, hw⟩ := sl.get c ho h1
      refine .inr (.inr ⟨f x, xs.map f, dp_cur c ((hd x).get h3), .lst hq (dp_all c ((datMap hd xs).get hw)), (hs x).shaped (by omega), (shp_list (n := 60) fun d hd => ?_).shaped (by omega), ?_⟩)
      · obtain ⟨y, _, rfl⟩ := List.mem_map.mp hd; exact hs y
      · rw [any_eqv hi]
        exact h σ _ H ⟨B, hs', c, ho, hr, .cons rfl h4⟩
theorem k_notInDp [sl : SeqL F os q0 (xs.map t)] (hd : ∀ x, DatR F (t x) (f x)) (hs : ∀ x, Shp 60 (f x)) (hi : ∀ x y, PyData.eqv (f x) (f y) = true ↔ x = y) (h : Gk L rs (rB (!decide (x ∈ xs)) :: st) os K) : Gk L rs (q0 :: t x :: st) os (opk (rNotInU F) K) := fun σ us H s => by
  obtain ⟨B, hs', c, ho, hr, hst⟩ := s
  cases hst with
  | @cons _ y _ _ h1 h2 =>
    cases h2 with
    | @cons _ z _ tl h3 h4 =>
      obtain ⟨a, vs, rfl, hq, hw⟩ := sl.get c ho h1
      refine .inr (.inr ⟨f x, xs.map f, dp_cur c ((hd x).get h3), .lst hq (dp_all c ((datMap hd xs).get hw)), (hs x).shaped (by omega), (shp_list (n := 60) fun d hd => ?_).shaped (by omega), ?_⟩)
      · obtain ⟨y, _, rfl⟩ := List.mem_map.mp hd; exact hs y
      · rw [any_eqv hi]
        exact h σ _ H ⟨B, hs', c, ho, hr, .cons rfl h4⟩
end
/-! ### pairs of numbers, events, reads -/
def prD (p : Int × Int) : PyData := .tuple [.int p.1, .int p.2]
theorem dat_pr {F : PySem.W.Frag} (p : Int × Int) : DatR F (rPr p) (prD p) := inferInstanceAs (DatR F (rTp [G.rI p.1, G.rI p.2]) _)
theorem shp_pr (p : Int × Int) : Shp 60 (prD p) := shp_tup (n := 59) fun d hd => by
  simp only [List.mem_cons, List.not_mem_nil, or_false] at hd
  rcases hd with rfl | rfl <;> exact shp_int _
theorem eqv_pr (p q : Int × Int) : PyData.eqv (prD p) (prD q) = true ↔ p = q := by
  rw [eqv_iff _ _ (by simp [prD, noB, noBs]) (by simp [prD, noB, noBs])]
  unfold prD
  simp [Prod.ext_iff]
theorem k_inPr {L : Lk} {rs : List (Option R)} {st : List R} {os : List Own} {K : KK} {F : PySem.W.Frag} {q0 : R} {xs : List (Int × Int)} {a b : Int} [sl : SeqL F os q0 (xs.map rPr)] (h : Gk L rs (rB (decide ((a, b) ∈ xs)) :: st) os K) : Gk L rs (q0 :: rTp [G.rI a, G.rI b] :: st) os (opk (rInU F) K) := k_inDp (t := rPr) (x := (a, b)) dat_pr shp_pr eqv_pr h
theorem k_notInPr {L : Lk} {rs : List (Option R)} {st : List R} {os : List Own} {K : KK} {F : PySem.W.Frag} {q0 : R} {xs : List (Int × Int)} {a b : Int} [sl : SeqL F os q0 (xs.map rPr)] (h : Gk L rs (rB (!decide ((a, b) ∈ xs)) :: st) os K) : Gk L rs (q0 :: rTp [G.rI a, G.rI b] :: st) os (opk (rNotInU F) K) := k_notInDp (t := rPr) (x := (a, b)) dat_pr shp_pr eqv_pr h

/-! ### edges, as the laws tell them -/
/-- what is found so far: all with the second event before k, those with the k-th event and a first one before j -/
def EdgeAt (evs : List Ev) (k j : Nat) (e : List (Int × Int)) : Prop := ∀ a b, (a, b) ∈ e ↔ Edge (evs.take k) a b ∨ ∃ x ∈ evs.take j, ∃ y, evs[k]? = some y ∧ x.name = a ∧ y.name = b ∧ Cf x y
theorem EdgeAt.start (evs : List Ev) : EdgeAt evs 0 0 [] := fun a b => by
  simp [Edge_nil]
theorem EdgeAt.next {evs : List Ev} {k : Nat} {e : List (Int × Int)} {y : Ev} (h : EdgeAt evs k k e) (hy : evs[k]? = some y) : EdgeAt evs (k + 1) 0 e := fun a b => by
  rw [h, take_snoc hy, Edge_snoc]
  simp only [List.take_zero, List.not_mem_nil, false_and, exists_false, or_false]
  refine or_congr Iff.rfl ⟨?_, ?_⟩
  · rintro ⟨x, hx, z, hz, h1, h2, h3⟩
    rw [hy] at hz; cases hz
    exact ⟨x, hx, h1, h2, h3⟩
  · rintro ⟨x, hx, h1, h2, h3⟩
    exact ⟨x, hx, y, hy, h1, h2, h3⟩
theorem EdgeAt.turn {evs : List Ev} {k j : Nat} {e : List (Int × Int)} {x y : Ev} (h : EdgeAt evs k j e) (hx : evs[j]? = some x) (hy : evs[k]? = some y) : (Cf x y → EdgeAt evs k (j + 1) (addE e (x.name, y.name))) ∧ (¬ Cf x y → EdgeAt evs k (j + 1) e) := by
  have mem : ∀ z, z ∈ evs.take (j + 1) ↔ z ∈ evs.take j ∨ z = x := fun z => by rw [take_snoc hx, List.mem_append, List.mem_singleton]
  refine ⟨fun c a b => ?_, fun c a b => ?_⟩
  · rw [mem_addE, h, Prod.mk.injEq]
    constructor
    · rintro ((q | ⟨z, hz, q⟩) | ⟨rfl, rfl⟩)
      · exact .inl q
      · exact .inr ⟨z, (mem z).mpr (.inl hz), q⟩
      · exact .inr ⟨x, (mem x).mpr (.inr rfl), y, hy, rfl, rfl, c⟩
    · rintro (q | ⟨z, hz, w, hw, h1, h2, h3⟩)
      · exact .inl (.inl q)
      · rcases (mem z).mp hz with hz | rfl
        · exact .inl (.inr ⟨z, hz, w, hw, h1, h2, h3⟩)
        · rw [hy] at hw; cases hw
          exact .inr ⟨h1.symm, h2.symm⟩
  · rw [h]
    constructor
    · rintro (q | ⟨z, hz, q⟩)
      · exact .inl q
      · exact .inr ⟨z, (mem z).mpr (.inl hz), q⟩
    · rintro (q | ⟨z, hz, w, hw, h1, h2, h3⟩)
      · exact .inl q
      · rcases (mem z).mp hz with hz | rfl
        · exact .inr ⟨z, hz, w, hw, h1, h2, h3⟩
        · rw [hy] at hw; cases hw
          exact absurd h3 c
theorem EdgeAt.end_ {evs : List Ev} {e : List (Int × Int)} (h : EdgeAt evs evs.length 0 e) (a b : Int) : (a, b) ∈ e ↔ Edge evs a b := by
  rw [h, List.take_length]
  simp
theorem addE_same {e : List (Int × Int)} {p : Int × Int} (h : p ∈ e) : addE e p = e := if_pos h
theorem addE_new {e : List (Int × Int)} {p : Int × Int} (h : p ∉ e) : addE e p = e ++ [p] := if_neg h
theorem addE_len {e : List (Int × Int)} {p : Int × Int} : (addE e p).length ≤ e.length + 1 := by
  unfold addE
  split
  · omega
  · simp
theorem sorted_eq {l m : List Int} (p : l.Perm m) (h1 : l.Pairwise (· ≤ ·)) (h2 : m.Pairwise (· ≤ ·)) : l = m := List.Perm.eq_of_pairwise (fun a b _ _ h k => Int.le_antisymm h k) h1 h2 p
theorem ThingsOk.take {rows : List Row} {ts : List Thing} (h : ThingsOk rows ts) (j : Nat) : ThingsOk rows (ts.take j) := fun k u hu => by
  rw [List.getElem?_take] at hu
  split at hu
  · rename_i hk
    obtain ⟨⟨r', q1, q2, q3, q4, q5⟩, q6⟩ := h k u hu
    refine ⟨⟨r', q1, q2, q3, q4, fun p hp => ?_⟩, q6⟩
    obtain ⟨z1, v, z2, z3⟩ := q5 p hp
    refine ⟨z1, v, ?_, z3⟩
    rw [List.getElem?_take, if_pos (by omega)]; exact z2
  · cases hu
theorem FolAt.start2 {evs : List Ev} {ns : List Int} (h : ns.Nodup) : FolAt evs ns (ns.filter fun n => decide (n ∈ evs.map Ev.name)) where
  nd := List.Pairwise.sublist List.filter_sublist h
  sub := fun n hn => by
    obtain ⟨e, he, rfl⟩ := List.mem_map.mp (by simpa using (List.mem_filter.mp hn).2 : n ∈ evs.map Ev.name)
    exact (mem_namesOf evs).mpr ⟨e, he, rfl⟩
  base := fun n h1 h2 => by
    obtain ⟨e, he, rfl⟩ := (mem_namesOf evs).mp h1
    exact List.mem_filter.mpr ⟨h2, by simpa using ⟨e, he, rfl⟩⟩
  least := fun S h _ n hn => by
    obtain ⟨e, he, rfl⟩ := List.mem_map.mp (by simpa using (List.mem_filter.mp hn).2 : n ∈ evs.map Ev.name)
    exact h _ ((mem_namesOf evs).mpr ⟨e, he, rfl⟩) (List.mem_filter.mp hn).1
theorem FolOk.unique {evs : List Ev} {ns e f : List Int} (h : FolOk evs ns e) (k : FolOk evs ns f) : e = f := by
  refine sorted_eq ?_ h.asc k.asc
  rw [List.perm_ext_iff_of_nodup h.nd k.nd]
  exact fun n => ⟨h.least f k.base k.clo n, k.least e h.base h.clo n⟩
/-- what the laws tell of the edges between some names -/
def AscE (evs : List Ev) (names : List Int) (e : List (Int × Int)) : Prop := ∃ (ns : List Int) (ed : List (Int × Int)), ns.Perm names ∧ ns.Pairwise (· ≤ ·) ∧ (∀ a b, (a, b) ∈ ed ↔ Edge evs a b) ∧ e = (pairsOf ns ns).filter fun p => decide (p ∈ ed)
end W
/-! GL29: values known by their data; isinstance with built-in types. Own work. -/
namespace G
open PySem PySem.Spec PyProof.Rows L2
theorem dp_ex {F : PySem.W.Frag} {B B' : Hp} (ex : Ex B B') : ∀ {v : V} {d : PyData}, Dp F B v d → Dp F B' v d := by
  intro v d h
  refine Dp.rec (motive_1 := fun v d _ => Dp F B' v d) (motive_2 := fun vs ds _ => DpAll F B' vs ds) ?_ ?_ ?_ ?_ ?_ ?_ ?_ ?_ h
  · exact .non
  · exact fun b => .bl b
  · exact fun i => .int i
  · exact fun x => .str x
  · exact fun a b ih => .lst (ex_l ex a) ih
  · exact fun a b ih => .tup (ex_t ex a) ih
  · exact .nil
  · exact fun _ _ h1 h2 => .cons h1 h2
/-- a value with these data -/
def rDat (F : PySem.W.Frag) (d : PyData) : R := ⟨fun B v => Dp F B v d, fun e h => dp_ex e h⟩
theorem dat_all {F : PySem.W.Frag} {B : Hp} : ∀ {vs : List V} {ds : List PyData}, DpAll F B vs ds → AllR B (ds.map (rDat F)) vs
  | _, _, .nil => .nil
  | _, _, .cons a b => .cons a (dat_all b)
instance {F : PySem.W.Frag} {ds : List PyData} : StL F (rDat F (.list ds)) (ds.map (rDat F)) := ⟨fun {B v} h => by
  cases h with
  | lst a b => exact ⟨_, _, rfl, a, dat_all b⟩⟩
instance {F : PySem.W.Frag} {ds : List PyData} : StT F (rDat F (.tuple ds)) (ds.map (rDat F)) := ⟨fun {B v} h => by
  cases h with
  | tup a b => exact ⟨_, _, rfl, a, dat_all b⟩⟩
theorem dat_of {F : PySem.W.Frag} {q : R} {d : PyData} [h : DatR F q d] : ∀ B v, q.p B v → (rDat F d).p B v := fun _ _ hq => h.get hq
/-- built-in types of values -/
class TyR (F : PySem.W.Frag) (q : R) (n : outParam String) : Prop where
  get : ∀ {L : Lk} {B : Hp} {hs : List Hp} {H : Hp} {v : V}, Cur L B hs H → q.p B v → TyX F H v (.type n)
instance {F : PySem.W.Frag} {i : Int} : TyR F (rI i) "int" := ⟨fun {L B hs H v} c h => by rw [show v = V.int i from h]; exact .base (.int i)⟩
instance {F : PySem.W.Frag} {b : Bool} : TyR F (rB b) "bool" := ⟨fun {L B hs H v} c h => by rw [show v = V.bl b from h]; exact .base (.bl b)⟩
instance {F : PySem.W.Frag} {x : Str} : TyR F (rS x) "str" := ⟨fun {L B hs H v} c h => by rw [show v = V.str x from h]; exact .base (.str x)⟩
theorem ty_l {F : PySem.W.Frag} {H : Hp} {a : Addr} {xs : List V} (h : SqL F H a xs) : TyX F H (.ref a) (.type "list") := by
  rcases h with (h | ⟨od, h⟩) | ⟨o, its, n, h1, h2, _⟩
  · exact .base (.lst h)
  · exact .base (.frz h)
  · exact .kList h1 h2
theorem ty_t {F : PySem.W.Frag} {H : Hp} {a : Addr} {xs : List V} (h : SqT F H a xs) : TyX F H (.ref a) (.type "tuple") := by
  rcases h with (h | ⟨od, h⟩) | ⟨o, its, n, h1, h2, _⟩
  · exact .base (.tup h)
  · exact .fTuple h
  · exact .kTuple h1 h2
instance {F : PySem.W.Frag} {ds : List PyData} : TyR F (rDat F (.list ds)) "list" := ⟨fun {L B hs H v} c h => by
  cases h with
  | lst a b => exact ty_l (c.sqL a)⟩
instance {F : PySem.W.Frag} {ds : List PyData} : TyR F (rDat F (.tuple ds)) "tuple" := ⟨fun {L B hs H v} c h => by
  cases h with
  | tup a b => exact ty_t (c.sqT a)⟩
class KitB (a c : String) (b : outParam Bool) : Prop where
  e : kitB a c = some b
instance : KitB "int" "int" true := ⟨by decide +kernel⟩
instance : KitB "int" "str" false := ⟨by decide +kernel⟩
instance : KitB "int" "bool" false := ⟨by decide +kernel⟩
instance : KitB "int" "list" false := ⟨by decide +kernel⟩
instance : KitB "int" "tuple" false := ⟨by decide +kernel⟩
instance : KitB "str" "int" false := ⟨by decide +kernel⟩
instance : KitB "str" "str" true := ⟨by decide +kernel⟩
instance : KitB "str" "bool" false := ⟨by decide +kernel⟩
instance : KitB "str" "list" false := ⟨by decide +kernel⟩
instance : KitB "str" "tuple" false := ⟨by decide +kernel⟩
instance : KitB "bool" "int" true := ⟨by decide +kernel⟩
instance : KitB "bool" "str" false := ⟨by decide +kernel⟩
instance : KitB "bool" "bool" true := ⟨by decide +kernel⟩
instance : KitB "bool" "list" false := ⟨by decide +kernel⟩
instance : KitB "bool" "tuple" false := ⟨by decide +kernel⟩
instance : KitB "list" "int" false := ⟨by decide +kernel⟩
instance : KitB "list" "str" false := ⟨by decide +kernel⟩
instance : KitB "list" "bool" false := ⟨by decide +kernel⟩
instance : KitB "list" "list" true := ⟨by decide +kernel⟩
instance : KitB "list" "tuple" false := ⟨by decide +kernel⟩
instance : KitB "tuple" "int" false := ⟨by decide +kernel⟩
instance : KitB "tuple" "str" false := ⟨by decide +kernel⟩
instance : KitB "tuple" "bool" false := ⟨by decide +kernel⟩
instance : KitB "tuple" "list" false := ⟨by decide +kernel⟩
instance : KitB "tuple" "tuple" true := ⟨by decide +kernel⟩
theorem isi1 (F : PySem.W.Frag) {X : Cx} (h : X.K = F := by rfl) : CallR X (.builtin "isinstance") (rIsi F) := h ▸ call_isi
theorem isi2 (F : PySem.W.Frag) {X : Cx} (h : X.K = F := by rfl) : CallR X (.builtin "isinstance") (rIsiT F) := h ▸ call_isiT
section
variable {L : Lk} {rs rs' : List (Option R)} {st as : List R} {os : List Own} {K : KK} {F : PySem.W.Frag} {q q' : R} {n c1 c2 : String} {b b1 b2 : Bool}
theorem k_isi1 [t : TyR F q n] [k : KitB n c1 b] (h : Gk L rs (rB b :: st) os K) : GA L rs [q, rV (.ty c1)] st os (cbk (rIsi F) K) :=
  k_cb1 (q := rB b) (fun B hs H us c hu => by
    obtain ⟨v, w, rfl, h1, h2⟩ := all2 hu
    have h2 : w = V.ty c1 := h2
    subst h2
    exact ⟨.bl b, rfl, fun Q z => ⟨v, .ty c1, .type n, .type c1, b, rfl, .ty c1, t.get c h1, kit_ty k.e, z⟩⟩) h
theorem k_isi2 [t : TyR F q n] [k1 : KitB n c1 b1] [k2 : KitB n c2 b2] (h : Gk L rs (rB (b1 || b2) :: st) os K) : GA L rs [q, rTp [rV (.ty c1), rV (.ty c2)]] st os (cbk (rIsiT F) K) :=
  k_cb1 (q := rB (b1 || b2)) (fun B hs H us c hu => by
    obtain ⟨v, w, rfl, h1, h2⟩ := all2 hu
    obtain ⟨a, vs, rfl, h3, h4⟩ := h2
    obtain ⟨x, y, rfl, h5, h6⟩ := all2 h4
    have h5 : x = V.ty c1 := h5
    have h6 : y = V.ty c2 := h6
    subst h5 h6
    refine ⟨.bl (b1 || b2), rfl, fun Q z => ⟨v, a, _, .type n, [.type c1, .type c2], b1 || b2, rfl, c.exact h3 rfl, .cons (.ty c1) (.cons (.ty c2) .nil), t.get c h1, kitAny_cons (kit_ty k1.e) (fun e => ?_) (fun e => by rw [e]; rfl), z⟩⟩
    rw [e, Bool.false_or]
    exact kitAny_cons (kit_ty k2.e) (fun e => by rw [e]; exact kitAny_nil) (fun e => e)) h
/-- another word for the arguments -/
theorem ga_imp {as' : List R} {KA : List V → KK} (i : ∀ B us, AllR B as us → AllR B as' us) (hl : as.length = as'.length) (h : GA L rs as' st os KA) : GA L rs as st os KA := fun σ us vs H hu s => by
  obtain ⟨B, hs, c, ho, hr, h1, h2⟩ := S.args hu s
  exact h σ us vs H (by omega) ⟨B, hs, c, ho, hr, papp (i B us h1) h2⟩
/-- .. for a slot -/
theorem k_slotI (i : Nat) [g : GetR rs i q] [sr : SetR rs i (some q') rs'] (im : ∀ B v, q.p B v → q'.p B v) (h : Gk L rs' st os K) : Gk L rs st os K := fun σ vs H s => by
  obtain ⟨B, hs, c, ho, hr, hst⟩ := s
  obtain ⟨b, hb, v, hv, ev⟩ := pget hr g.e
  subst hv
  have p := pset (F := slotOk B) (a := some q') (b := some v) ⟨_, rfl, im B v ev⟩ i hr
  have hi : (σ.set i (some v)) = σ := by
    obtain ⟨hlt, hx⟩ := List.getElem?_eq_some_iff.mp hb
    rw [← hx, List.set_getElem_self]
  rw [hi, sr.e] at p
  exact h σ vs H ⟨B, hs, c, ho, p, hst⟩
/-- is None, for data -/
theorem k_isND (hd : ∀ B, ¬ q.p B .non) (h : Gk L rs (rB false :: st) os K) : Gk L rs (rN :: q :: st) os (opk (fun x y H Q => y = V.non ∧ Q (V.bl (decide (x = V.non))) H) K) :=
  k_op1 (fun B hs H x y c hx hy => ⟨.bl false, rfl, fun Q z => ⟨hy, by
    have : ¬ x = V.non := fun e => hd B (e ▸ hx)
    rw [decide_eq_false this]; exact z⟩⟩) h
end
end G
/-! DJ: data that the laws compare. Own work. -/
namespace W
open PySem PySem.Spec PyProof.Rows L2 C8 G
/-- numbers and texts, lists and tuples of such, below a depth -/
inductive DOk : Nat → PyData → Prop where
  | int {n : Nat} (i : Int) : DOk (n + 1) (.int i)
  | str {n : Nat} (x : Str) : DOk (n + 1) (.str x)
  | lst {n : Nat} {ds : List PyData} : ds.length ≤ 5000 → (∀ d ∈ ds, DOk n d) → DOk (n + 1) (.list ds)
  | tup {n : Nat} {ds : List PyData} : ds.length ≤ 5000 → (∀ d ∈ ds, DOk n d) → DOk (n + 1) (.tuple ds)
def sameCt (K : PySem.W.Frag) (n : Nat) : Ct where
  δ := PyData × PyData
  ε := Bool
  ok d := DOk n d.1 ∧ DOk n d.2
  pre d := [rDat K d.1, rDat K d.2]
  own d := []
  post d e := e = true ↔ d.1 = d.2
  ret _ e := rB e
  out d _ := []
/-- a list is as another one if none of its places differs -/
noncomputable def difAt (ds es : List PyData) (x : Int) : Bool := !(@decide (ds.getD x.toNat .none = es.getD x.toNat .none) (Classical.propDecidable _))
theorem dif_none {ds es : List PyData} (hl : ds.length = es.length) : decide ((((rngL 0 1 (es.length : Int).toNat).filter (difAt ds es)).length : Int) = 0) = true ↔ ds = es := by
  rw [decide_eq_true_eq]
  have e0 : ((((rngL 0 1 (es.length : Int).toNat).filter (difAt ds es)).length : Int) = 0) ↔ ∀ x ∈ rngL 0 1 (es.length : Int).toNat, ¬ difAt ds es x = true := by
    rw [← List.filter_eq_nil_iff, ← List.length_eq_zero_iff]
    omega
  rw [e0]
  constructor
  · intro h
    apply List.ext_getElem?
    intro i
    by_cases hi : i < es.length
    · have hm : ((i : Nat) : Int) ∈ rngL 0 1 (es.length : Int).toNat := by
        unfold rngL
        exact List.mem_map.mpr ⟨i, List.mem_range.mpr (by omega), by omega⟩
      have := h _ hm
      unfold difAt at this
      have q : @decide (ds.getD ((i : Nat) : Int).toNat PyData.none = es.getD ((i : Nat) : Int).toNat PyData.none) (Classical.propDecidable _) = true := by simpa using this
      have q := @of_decide_eq_true _ (Classical.propDecidable _) q
      rw [Int.toNat_natCast, List.getD_eq_getElem?_getD, List.getD_eq_getElem?_getD, List.getElem?_eq_getElem hi, List.getElem?_eq_getElem (by omega)] at q
      rw [List.getElem?_eq_getElem hi, List.getElem?_eq_getElem (by omega)]
      exact congrArg some q
    · rw [List.getElem?_eq_none (by omega), List.getElem?_eq_none (by omega)]
  · intro h x _
    unfold difAt
    rw [h]
    simp
instance : Inhabited PyData := ⟨.none⟩
theorem DOk.mem {n : Nat} {ds : List PyData} (h : ∀ d ∈ ds, DOk n d) {x : Int} (hx : 0 ≤ x ∧ x < ds.length) : DOk n (ds.getD x.toNat default) := h _ (getD_mem (by omega))
end W
/-! DK: events, reads, pairs as data; the edges of a part. Own work. -/
namespace W
open PySem PySem.Spec PyProof.Rows L2 C8 G
def evD (e : Ev) : PyData := .tuple [.int e.name, .tuple [.str e.step.deed.s, .int e.step.thing]]
def rdD (r : Rd3) : PyData := .tuple [.int r.name, .int r.thing, .int r.src]
section
variable {F : PySem.W.Frag}
instance {e : Ev} : DatR F (rEv e) (evD e) := inferInstanceAs (DatR F (rTp [G.rI e.name, rTp [rS e.step.deed.s, G.rI e.step.thing]]) _)
instance {r : Rd3} : DatR F (rRd r) (rdD r) := inferInstanceAs (DatR F (rTp [G.rI r.name, G.rI r.thing, G.rI r.src]) _)
instance {p : Int × Int} : DatR F (rPr p) (prD p) := dat_pr p
instance {xs : List Ev} : DatRs F (xs.map rEv) (xs.map evD) := datMap (fun _ => inferInstance) xs
instance {xs : List Rd3} : DatRs F (xs.map rRd) (xs.map rdD) := datMap (fun _ => inferInstance) xs
instance {xs : List (Int × Int)} : DatRs F (xs.map rPr) (xs.map prD) := datMap (fun _ => inferInstance) xs
end
theorem evD_inj {a b : Ev} (h : evD a = evD b) : a = b := by
  obtain ⟨n, ⟨d, t⟩⟩ := a
  obtain ⟨m, ⟨c, u⟩⟩ := b
  unfold evD at h
  simp only [PyData.tuple.injEq, List.cons.injEq, PyData.int.injEq, PyData.str.injEq, and_true] at h
  obtain ⟨h1, h2, h3⟩ := h
  rw [h1, h3, Deed.s_inj h2]
theorem rdD_inj {a b : Rd3} (h : rdD a = rdD b) : a = b := by
  obtain ⟨n, d, t⟩ := a
  obtain ⟨m, c, u⟩ := b
  unfold rdD at h
  simp only [PyData.tuple.injEq, List.cons.injEq, PyData.int.injEq, and_true] at h
  obtain ⟨h1, h2, h3⟩ := h
  rw [h1, h2, h3]
theorem dok_mem2 {n : Nat} {ds : List PyData} (h : ∀ d ∈ ds, ∃ i, d = .int i) : ∀ d ∈ ds, DOk (n + 1) d := fun d hd => by
  obtain ⟨i, rfl⟩ := h d hd
  exact .int i
theorem dok_ev {n : Nat} (e : Ev) : DOk (n + 3) (evD e) := .tup (by simp) fun d hd => by
  simp only [List.mem_cons, List.not_mem_nil, or_false] at hd
  rcases hd with rfl | rfl
  · exact .int _
  · exact .tup (by simp) fun d hd => by
      simp only [List.mem_cons, List.not_mem_nil, or_false] at hd
      rcases hd with rfl | rfl
      · exact .str _
      · exact .int _
theorem dok_rd {n : Nat} (r : Rd3) : DOk (n + 2) (rdD r) := .tup (by simp) fun d hd => by
  simp only [List.mem_cons, List.not_mem_nil, or_false] at hd
  rcases hd with rfl | rfl | rfl <;> exact .int _
theorem dok_pr {n : Nat} (p : Int × Int) : DOk (n + 2) (prD p) := .tup (by simp) fun d hd => by
  simp only [List.mem_cons, List.not_mem_nil, or_false] at hd
  rcases hd with rfl | rfl <;> exact .int _
theorem dok_evs {xs : List Ev} (h : xs.length ≤ 5000) : DOk 6 (.list (xs.map evD)) := .lst (by rw [List.length_map]; exact h) fun d hd => by
  obtain ⟨e, _, rfl⟩ := List.mem_map.mp hd; exact dok_ev e
theorem dok_rds {xs : List Rd3} (h : xs.length ≤ 5000) : DOk 6 (.list (xs.map rdD)) := .lst (by rw [List.length_map]; exact h) fun d hd => by
  obtain ⟨e, _, rfl⟩ := List.mem_map.mp hd; exact dok_rd e
theorem dok_prs {xs : List (Int × Int)} (h : xs.length ≤ 5000) : DOk 6 (.list (xs.map prD)) := .lst (by rw [List.length_map]; exact h) fun d hd => by
  obtain ⟨e, _, rfl⟩ := List.mem_map.mp hd; exact dok_pr e
theorem dok_ints {xs : List Int} (h : xs.length ≤ 5000) : DOk 6 (.tuple (xs.map PyData.int)) := .tup (by rw [List.length_map]; exact h) fun d hd => by
  obtain ⟨e, _, rfl⟩ := List.mem_map.mp hd; exact .int e
/-- the comparison of two values known by their data -/
theorem ga_dat2 {L : Lk} {rs : List (Option R)} {st : List R} {os : List Own} {KA : List V → KK} {F : PySem.W.Frag} {q1 q2 : R} {d1 d2 : PyData} [h1 : DatR F q1 d1] [h2 : DatR F q2 d2] (h : GA L rs [rDat F d1, rDat F d2] st os KA) : GA L rs [q1, q2] st os KA :=
  ga_imp (as' := [rDat F d1, rDat F d2]) (fun B us hu => by
    obtain ⟨v, w, rfl, a, b⟩ := all2 hu
    exact .cons (h1.get a) (.cons (h2.get b) .nil)) rfl h

/-! ### the edges of a part -/
theorem pairs_filter (ns : List Int) (q : Int → Bool) : pairsOf (ns.filter q) (ns.filter q) = (pairsOf ns ns).filter fun p => q p.1 && q p.2 := by
  have inner : ∀ (ms : List Int) (a : Int), ((ms.map fun b => (a, b)).filter fun p : Int × Int => q p.1 && q p.2) = if q a = true then (ms.filter q).map fun b => (a, b) else [] := fun ms a => by
    rw [List.filter_map]
    split
    · rename_i h
      congr 1
      refine List.filter_congr fun b _ => ?_
      simp [h]
    · rename_i h
      rw [List.filter_eq_nil_iff.mpr fun b _ => by simp [h]]
      rfl
  unfold pairsOf
  have gen : ∀ (ls ms : List Int), (ls.filter q).flatMap (fun a => (ms.filter q).map fun b => (a, b)) = (ls.flatMap fun a => ms.map fun b => (a, b)).filter fun p => q p.1 && q p.2 := fun ls ms => by
    induction ls with
    | nil => rfl
    | cons a ls ih =>
      rw [List.flatMap_cons, List.filter_append, inner ms a, ← ih]
      by_cases h : q a = true
      · rw [if_pos h, List.filter_cons_of_pos h, List.flatMap_cons]
      · rw [if_neg h, List.filter_cons_of_neg h, List.nil_append]
  exact gen ns ns
theorem edges_part {evs : List Ev} {names ns : List Int} {ed e2 : List (Int × Int)} (hn : names.Nodup) (h1 : Asc (partE evs names) ns) (h2 : ∀ a b, (a, b) ∈ ed ↔ Edge (partE evs names) a b) (h3 : AscE evs names e2) : ((pairsOf ns ns).filter fun p => decide (p ∈ ed)) = e2 := by
  obtain ⟨ms, ed2, p1, p2, p3, rfl⟩ := h3
  have hsub : ∀ n ∈ namesOf (partE evs names), n ∈ names := fun n h => by
    obtain ⟨e, he, rfl⟩ := (mem_namesOf _).mp h
    have := (List.mem_filter.mp he).2
    simpa using this
  have hms : ms.Nodup := p1.nodup_iff.mpr hn
  have e1 : ns = ms.filter fun n => decide (n ∈ namesOf (partE evs names)) := by
    refine sorted_eq ?_ h1.asc (List.Pairwise.sublist List.filter_sublist p2)
    rw [List.perm_ext_iff_of_nodup (h1.perm.nodup_iff.mpr (namesOf_nodup _)) (List.Pairwise.sublist List.filter_sublist hms)]
    intro n
    rw [List.mem_filter, h1.perm.mem_iff, p1.mem_iff, decide_eq_true_eq]
    exact ⟨fun h => ⟨hsub n h, h⟩, fun h => h.2⟩
  rw [e1, pairs_filter, List.filter_filter]
  refine List.filter_congr fun p hp => ?_
  obtain ⟨a, b⟩ := p
  obtain ⟨ha, hb⟩ := mem_pairsOf.mp hp
  have ha : a ∈ names := p1.mem_iff.mp ha
  have hb : b ∈ names := p1.mem_iff.mp hb
  have key : (a, b) ∈ ed ↔ (a, b) ∈ ed2 := by
    rw [h2, p3]
    have := Edge_filter (evs := evs) (p := fun n => decide (n ∈ names)) (a := a) (b := b)
    rw [show partE evs names = evs.filter (fun e => decide (e.name ∈ names)) from rfl]
    rw [this]
    simp [ha, hb]
  by_cases h : (a, b) ∈ ed
  · have hh := Edge_names ((h2 a b).mp h)
    rw [decide_eq_true h, decide_eq_true (key.mp h), decide_eq_true hh.1, decide_eq_true hh.2]; rfl
  · have h' : (a, b) ∉ ed2 := fun q => h (key.mpr q)
    rw [decide_eq_false h, decide_eq_false h']; rfl
end W
/-! DL: reads of parts; other names for the programs. Own work. -/
namespace W
open PySem PySem.Spec PyProof.Rows L2 C8 G
def restOf (names out : List Int) : List Int := names.filter fun n => !decide (n ∈ out)
theorem mem_restOf {names out : List Int} {n : Int} : n ∈ restOf names out ↔ n ∈ names ∧ n ∉ out := by
  unfold restOf
  rw [List.mem_filter]; simp
theorem lastO_in {evs : List Ev} {t : Int} {P : Int → Prop} (h0 : P (-1)) (h : ∀ e ∈ evs, P e.name) : P (lastO evs t) := by
  induction evs using snoc_ind with
  | h0 => exact h0
  | hs l e ih =>
    rw [lastO_snoc]
    split
    · exact h e (by simp)
    · exact ih fun x hx => h x (List.mem_append_left _ hx)
theorem last_part {evs : List Ev} {names out : List Int} (hn : ∀ e ∈ evs, e.name ∈ names) (h1 : (-1 : Int) ∉ out) (t : Int) : lastO (partE evs (restOf names out)) t = lastO evs t ↔ lastO evs t ∉ out := by
  induction evs using snoc_ind with
  | h0 => simp [partE, lastO, h1]
  | hs l e ih =>
    have ih := ih fun x hx => hn x (List.mem_append_left _ hx)
    have he := hn e (by simp)
    rw [partE_snoc, lastO_snoc]
    by_cases ho : e.step.deed = .own ∧ e.step.thing = t
    · rw [if_pos ho]
      by_cases hr : e.name ∈ restOf names out
      · rw [if_pos hr, lastO_snoc, if_pos ho]
        exact ⟨fun _ => (mem_restOf.mp hr).2, fun _ => rfl⟩
      · rw [if_neg hr]
        have hout : e.name ∈ out := Decidable.byContradiction fun q => hr (mem_restOf.mpr ⟨he, q⟩)
        refine ⟨fun q => absurd q fun q => ?_, fun q => absurd hout q⟩
        have : lastO (partE l (restOf names out)) t ∉ out := lastO_in (P := fun n => n ∉ out) h1 fun x hx => by
          have := (List.mem_filter.mp hx).2
          exact (mem_restOf.mp (by simpa using this)).2
        rw [q] at this
        exact this hout
    · rw [if_neg ho]
      by_cases hr : e.name ∈ restOf names out
      · rw [if_pos hr, lastO_snoc, if_neg ho]; exact ih
      · rw [if_neg hr]; exact ih
theorem reads_len {evs : List Ev} {ns : List Int} : (readsOf (partE evs ns)).length = ((readsOf evs).filter fun r => decide (r.name ∈ ns)).length := by
  induction evs using snoc_ind with
  | h0 => simp [partE, readsOf]
  | hs l e ih =>
    rw [partE_snoc, readsOf_snoc, List.filter_append, List.length_append]
    by_cases hr : e.name ∈ ns
    · rw [if_pos hr, readsOf_snoc, List.length_append, ih]
      split
      · simp [hr]
      · simp
    · rw [if_neg hr, ih]
      split
      · simp [hr]
      · simp
theorem reads_part {evs : List Ev} {names out : List Int} (hn : ∀ e ∈ evs, e.name ∈ names) (h1 : (-1 : Int) ∉ out) :
    readsOf (partE evs (restOf names out)) = (readsOf evs).filter (fun r => decide (r.name ∈ restOf names out)) ↔ ∀ r ∈ readsOf evs, r.name ∈ restOf names out → r.src ∉ out := by
  induction evs using snoc_ind with
  | h0 => simp [partE, readsOf]
  | hs l e ih =>
    have hn' : ∀ x ∈ l, x.name ∈ names := fun x hx => hn x (List.mem_append_left _ hx)
    have ih := ih hn'
    have hl := reads_len (evs := l) (ns := restOf names out)
    rw [partE_snoc, readsOf_snoc, List.filter_append]
    by_cases hr : e.name ∈ restOf names out
    · rw [if_pos hr, readsOf_snoc]
      cases hk : isLk e with
      | false => simpa using ih
      | true =>
        rw [if_pos rfl, if_pos rfl, List.filter_cons_of_pos (by simpa using hr), List.filter_nil]
        constructor
        · intro h
          obtain ⟨q1, q2⟩ := List.append_inj h hl
          have q3 : lastO (partE l (restOf names out)) e.step.thing = lastO l e.step.thing := by
            injection q2 with q2 _
            injection q2
          intro r hm hrr
          rcases List.mem_append.mp hm with z | z
          · exact ih.mp q1 r z hrr
          · rw [List.mem_singleton.mp z]
            exact (last_part hn' h1 _).mp q3
        · intro h
          have q1 := ih.mpr fun r hm => h r (List.mem_append_left _ hm)
          have q3 := (last_part (names := names) hn' h1 e.step.thing).mpr (h ⟨e.name, e.step.thing, lastO l e.step.thing⟩ (by simp) hr)
          rw [q1, q3]
    · rw [if_neg hr]
      cases hk : isLk e with
      | false => simpa using ih
      | true =>
        rw [if_pos rfl, List.filter_cons_of_neg (by simpa using hr), List.filter_nil, List.append_nil, ih]
        constructor
        · intro h r hm hrr
          rcases List.mem_append.mp hm with z | z
          · exact h r z hrr
          · rw [List.mem_singleton.mp z] at hrr
            exact absurd hrr hr
        · exact fun h r hm => h r (List.mem_append_left _ hm)
theorem FolOk.sub {evs : List Ev} {ns e : List Int} (h : FolOk evs ns e) : ∀ n ∈ e, n ∈ namesOf evs := fun n hn => h.least (namesOf evs) (fun _ q _ => q) (fun r hr _ => reads_name hr) n hn
theorem FolOk.none {evs : List Ev} {e : List Int} (h : FolOk evs [] e) : e = [] := List.eq_nil_iff_forall_not_mem.mpr fun n hn => by
  have hs : ∀ r ∈ readsOf evs, r.src ∈ ([] : List Int) → r.name ∈ ([] : List Int) := fun r _ q => nomatch q
  have := h.least [] (fun _ _ q => nomatch q) hs n hn
  cases this

/-! ### other names -/
def rnE (f : Int → Int) (e : Ev) : Ev := ⟨f e.name, e.step⟩
theorem stF_rn {f : Int → Int} {evs : List Ev} {n t : Int} (h : ∀ e ∈ evs, f e.name = f n → e.name = n) : stF (evs.map (rnE f)) (f n) t = stF evs n t := by
  induction evs using snoc_ind with
  | h0 => rfl
  | hs l e ih =>
    rw [List.map_append, List.map_singleton, stF_snoc, stF_snoc, ih fun x hx => h x (List.mem_append_left _ hx)]
    unfold stOp
    have : (f e.name = f n ∧ e.step.thing = t) ↔ (e.name = n ∧ e.step.thing = t) := ⟨fun q => ⟨h e (by simp) q.1, q.2⟩, fun q => ⟨by rw [q.1], q.2⟩⟩
    by_cases c : e.name = n ∧ e.step.thing = t
    · rw [if_pos c, if_pos (show (rnE f e).name = f n ∧ (rnE f e).step.thing = t from this.mpr c)]; rfl
    · rw [if_neg c, if_neg (show ¬ ((rnE f e).name = f n ∧ (rnE f e).step.thing = t) from fun q => c (this.mp q))]
theorem run_rn {ts : List Thing} {evs : List Ev} {f : Int → Int} {D : Int → Prop} (hf : ∀ a b, D a → D b → f a = f b → a = b) (r : Run ts evs) (hd : ∀ e ∈ evs, D e.name) : Run ts (evs.map (rnE f)) := by
  induction r with
  | nil => exact .nil
  | @snoc evs e r l ih =>
    rw [List.map_append, List.map_singleton]
    have hd' : ∀ x ∈ evs, D x.name := fun x hx => hd x (List.mem_append_left _ hx)
    have he := hd e (by simp)
    refine .snoc (ih hd') ?_
    have own : ∀ t, stF (evs.map (rnE f)) (rnE f e).name t = stF evs e.name t := fun t => stF_rn fun x hx q => hf _ _ (hd' x hx) he q
    have oth : ∀ k, k ≠ (rnE f e).name → ∀ t, stF (evs.map (rnE f)) k t = 0 ∨ ∃ n, n ≠ e.name ∧ stF (evs.map (rnE f)) k t = stF evs n t := fun k hk t => by
      by_cases hx : ∃ x ∈ evs, f x.name = k
      · obtain ⟨x, hx, rfl⟩ := hx
        refine .inr ⟨x.name, fun q => hk (by rw [q]; rfl), stF_rn fun y hy q => hf _ _ (hd' y hy) (hd' x hx) q⟩
      · refine .inl (stF_none fun y hy q => ?_)
        obtain ⟨x, hx', rfl⟩ := List.mem_map.mp hy
        exact hx ⟨x, hx', q⟩
    refine ⟨l.thing, fun h => ?_, fun h => ?_, l.share, fun h k hk => ?_, fun h k hk => ?_⟩
    · show stF (evs.map (rnE f)) (rnE f e).name e.step.thing = 1 ∨ stF (evs.map (rnE f)) (rnE f e).name e.step.thing = 2
      rw [own]; exact l.drop h
    · show stF (evs.map (rnE f)) (rnE f e).name e.step.thing = 0
      rw [own]; exact l.lock h
    · show stF (evs.map (rnE f)) k e.step.thing ≠ 1 ∧ stF (evs.map (rnE f)) k e.step.thing ≠ 2
      rcases oth k hk e.step.thing with q | ⟨n, hn, q⟩
      · rw [q]; omega
      · rw [q]; exact l.own2 h n hn
    · show stF (evs.map (rnE f)) k e.step.thing ≠ 1
      rcases oth k hk e.step.thing with q | ⟨n, hn, q⟩
      · rw [q]; omega
      · rw [q]; exact l.share2 h n hn
theorem names_len {evs : List Ev} {names : List Int} (h : ∀ e ∈ evs, e.name ∈ names) : (namesOf evs).length ≤ names.length := nodup_lenI (namesOf_nodup evs) fun n hn => by
  obtain ⟨e, he, rfl⟩ := (mem_namesOf evs).mp hn
  exact h e he
end W
namespace G
open PySem PySem.Spec PyProof.Rows L2
theorem prev {α β : Type} {F : α → β → Prop} : ∀ {l : List α} {m : List β}, Paired F l m → Paired F l.reverse m.reverse
  | _, _, .nil => .nil
  | _, _, .cons a b => by
    rw [List.reverse_cons, List.reverse_cons]
    exact papp (prev b) (.cons a .nil)
/-- many arguments -/
theorem k_aR {L : Lk} {rs : List (Option R)} {st : List R} {os : List Own} {KA : List V → KK} {n : Nat} (as : List R) (hn : as.length = n) (h : GA L rs as st os KA) : Gk L rs (as.reverse ++ st) os (akN n tNil KA) := fun σ vs H s => by
  obtain ⟨B, hs, c, ho, hr, hst⟩ := s
  obtain ⟨a, b, rfl, h1, h2⟩ := psplit hst
  have hl : a.length = n := by rw [← Paired.length h1, List.length_reverse]; exact hn
  show KA (((a ++ b).take n).reverse ++ []) σ ((a ++ b).drop n) H
  rw [List.take_left' hl, List.drop_left' hl, List.append_nil]
  have h3 := prev h1
  rw [List.reverse_reverse] at h3
  exact h σ a.reverse b H (by rw [List.length_reverse]; omega) ⟨B, hs, c, ho, hr, papp h3 h2⟩
end G
namespace W
open PySem PySem.Spec PyProof.Rows L2 C8 G
def topS (i : Nat) : Stmt := PySem.Challenge.pw_weblocks_k75_whole_parts_and_followers.main.body.getD i (.Pass ⟨0, 0, 0, 0⟩)
abbrev s__law_draws : Stmt := topS 45
abbrev N__law_draws : List Str := ["_law_script", "_law_draws_here", "_law_cell", "_law_rest", "_law_k", "_law_mixed"]
theorem sc__law_draws : FnScope N__law_draws ["_law_script"] (defScope s__law_draws) := ⟨rfl, rfl, rfl, by decide +kernel, rfl, by decide +kernel, by decide +kernel⟩
abbrev s__law_take : Stmt := topS 46
abbrev N__law_take : List Str := ["_law_draws_here", "_law_at", "_law_size"]
theorem sc__law_take : FnScope N__law_take ["_law_draws_here", "_law_at", "_law_size"] (defScope s__law_take) := ⟨rfl, rfl, rfl, by decide +kernel, rfl, by decide +kernel, by decide +kernel⟩
abbrev s__law_marks : Stmt := topS 48
abbrev N__law_marks : List Str := ["_law_draws_here", "_law_at", "_law_count", "_law_letters", "_law_shift", "_law_tail", "_law_front", "_law_marks_here", "_law_k", "_law_rest", "_law_sign"]
theorem sc__law_marks : FnScope N__law_marks ["_law_draws_here", "_law_at", "_law_count"] (defScope s__law_marks) := ⟨rfl, rfl, rfl, by decide +kernel, rfl, by decide +kernel, by decide +kernel⟩
abbrev s__law_rows : Stmt := topS 49
abbrev N__law_rows : List Str := ["_law_draws_here", "_law_at", "_law_count", "_law_marks_here", "_law_rows_here", "_law_k", "_law_parents", "_law_most", "_law_least", "_law_mark"]
theorem sc__law_rows : FnScope N__law_rows ["_law_draws_here", "_law_at", "_law_count"] (defScope s__law_rows) := ⟨rfl, rfl, rfl, by decide +kernel, rfl, by decide +kernel, by decide +kernel⟩
abbrev s__law_way : Stmt := topS 50
abbrev N__law_way : List Str := ["_law_draws_here", "_law_at", "_law_menu", "_law_choice", "_law_owned", "_law_held", "_law_seen"]
theorem sc__law_way : FnScope N__law_way ["_law_draws_here", "_law_at"] (defScope s__law_way) := ⟨rfl, rfl, rfl, by decide +kernel, rfl, by decide +kernel, by decide +kernel⟩
abbrev s__law_rules : Stmt := topS 51
abbrev N__law_rules : List Str := ["_law_draws_here", "_law_at", "_law_rows_here", "_law_rules_here", "_law_row", "_law_begin", "_law_ways", "_law_k"]
theorem sc__law_rules : FnScope N__law_rules ["_law_draws_here", "_law_at", "_law_rows_here"] (defScope s__law_rules) := ⟨rfl, rfl, rfl, by decide +kernel, rfl, by decide +kernel, by decide +kernel⟩
abbrev s__law_free_rules : Stmt := topS 52
abbrev N__law_free_rules : List Str := ["_law_rows_here", "_law_rules_here", "_law_row"]
theorem sc__law_free_rules : FnScope N__law_free_rules ["_law_rows_here"] (defScope s__law_free_rules) := ⟨rfl, rfl, rfl, by decide +kernel, rfl, by decide +kernel, by decide +kernel⟩
abbrev s__law_things : Stmt := topS 53
abbrev N__law_things : List Str := ["_law_draws_here", "_law_at", "_law_rows_here", "_law_count", "_law_things_here", "_law_k", "_law_row", "_law_able", "_law_size", "_law_chosen", "_law_j"]
theorem sc__law_things : FnScope N__law_things ["_law_draws_here", "_law_at", "_law_rows_here", "_law_count"] (defScope s__law_things) := ⟨rfl, rfl, rfl, by decide +kernel, rfl, by decide +kernel, by decide +kernel⟩
abbrev s__law_number : Stmt := topS 54
abbrev N__law_number : List Str := ["_law_rank", "_law_parents"]
theorem sc__law_number : FnScope N__law_number ["_law_rank", "_law_parents"] (defScope s__law_number) := ⟨rfl, rfl, rfl, by decide +kernel, rfl, by decide +kernel, by decide +kernel⟩
abbrev s__law_lets : Stmt := topS 55
abbrev N__law_lets : List Str := ["_law_rules_here", "_law_things_here", "_law_state", "_law_thing", "_law_rule", "_law_parents", "_law_held", "_law_owned", "_law_seen", "_law_counts", "_law_loose", "_law_way_here", "_law_short", "_law_x", "_law_k"]
theorem sc__law_lets : FnScope N__law_lets ["_law_rules_here", "_law_things_here", "_law_state", "_law_thing"] (defScope s__law_lets) := ⟨rfl, rfl, rfl, by decide +kernel, rfl, by decide +kernel, by decide +kernel⟩
abbrev s__law_do : Stmt := topS 56
abbrev N__law_do : List Str := ["_law_state", "_law_step"]
theorem sc__law_do : FnScope N__law_do ["_law_state", "_law_step"] (defScope s__law_do) := ⟨rfl, rfl, rfl, by decide +kernel, rfl, by decide +kernel, by decide +kernel⟩
abbrev s__law_open : Stmt := topS 57
abbrev N__law_open : List Str := ["_law_rules_here", "_law_things_here", "_law_state", "_law_locks", "_law_drops", "_law_thing"]
theorem sc__law_open : FnScope N__law_open ["_law_rules_here", "_law_things_here", "_law_state"] (defScope s__law_open) := ⟨rfl, rfl, rfl, by decide +kernel, rfl, by decide +kernel, by decide +kernel⟩
abbrev s__law_free : Stmt := topS 58
abbrev N__law_free : List Str := ["_law_states", "_law_name", "_law_step", "_law_others", "_law_k"]
theorem sc__law_free : FnScope N__law_free ["_law_states", "_law_name", "_law_step"] (defScope s__law_free) := ⟨rfl, rfl, rfl, by decide +kernel, rfl, by decide +kernel, by decide +kernel⟩
abbrev s__law_events : Stmt := topS 59
abbrev N__law_events : List Str := ["_law_draws_here", "_law_at", "_law_rules_here", "_law_things_here", "_law_programs", "_law_count", "_law_states", "_law_events_here", "_law_k", "_law_able", "_law_name", "_law_steps", "_law_event", "_law_thing", "_law_step"]
theorem sc__law_events : FnScope N__law_events ["_law_draws_here", "_law_at", "_law_rules_here", "_law_things_here", "_law_programs", "_law_count"] (defScope s__law_events) := ⟨rfl, rfl, rfl, by decide +kernel, rfl, by decide +kernel, by decide +kernel⟩
abbrev s__law_edges : Stmt := topS 60
abbrev N__law_edges : List Str := ["_law_events_here", "_law_edges_here", "_law_k", "_law_j", "_law_one", "_law_two", "_law_deeds"]
theorem sc__law_edges : FnScope N__law_edges ["_law_events_here"] (defScope s__law_edges) := ⟨rfl, rfl, rfl, by decide +kernel, rfl, by decide +kernel, by decide +kernel⟩
abbrev s__law_ascending : Stmt := topS 61
abbrev N__law_ascending : List Str := ["_law_events_here", "_law_names", "_law_edges_here", "_law_found", "_law_one", "_law_two", "_law_name"]
theorem sc__law_ascending : FnScope N__law_ascending ["_law_events_here", "_law_names"] (defScope s__law_ascending) := ⟨rfl, rfl, rfl, by decide +kernel, rfl, by decide +kernel, by decide +kernel⟩
abbrev s__law_shape : Stmt := topS 62
abbrev N__law_shape : List Str := ["_law_rows_here", "_law_made", "_law_row"]
theorem sc__law_shape : FnScope N__law_shape ["_law_rows_here"] (defScope s__law_shape) := ⟨rfl, rfl, rfl, by decide +kernel, rfl, by decide +kernel, by decide +kernel⟩
abbrev s__law_web : Stmt := topS 63
abbrev N__law_web : List Str := ["_law_shape_here", "_law_things_here", "_law_web_here", "_law_thing", "_law_parents"]
theorem sc__law_web : FnScope N__law_web ["_law_shape_here", "_law_things_here"] (defScope s__law_web) := ⟨rfl, rfl, rfl, by decide +kernel, rfl, by decide +kernel, by decide +kernel⟩
abbrev s__law_weaving : Stmt := topS 64
abbrev N__law_weaving : List Str := ["_law_web_here", "_law_events_here", "_law_weaving_here", "_law_event"]
theorem sc__law_weaving : FnScope N__law_weaving ["_law_web_here", "_law_events_here"] (defScope s__law_weaving) := ⟨rfl, rfl, rfl, by decide +kernel, rfl, by decide +kernel, by decide +kernel⟩
abbrev s__law_reads : Stmt := topS 65
abbrev N__law_reads : List Str := ["_law_events_here", "_law_reads_here", "_law_last", "_law_event", "_law_thing"]
theorem sc__law_reads : FnScope N__law_reads ["_law_events_here"] (defScope s__law_reads) := ⟨rfl, rfl, rfl, by decide +kernel, rfl, by decide +kernel, by decide +kernel⟩
abbrev s__law_followers : Stmt := topS 66
abbrev N__law_followers : List Str := ["_law_events_here", "_law_chosen", "_law_present", "_law_found", "_law_k", "_law_read", "_law_event", "_law_name"]
theorem sc__law_followers : FnScope N__law_followers ["_law_events_here", "_law_chosen"] (defScope s__law_followers) := ⟨rfl, rfl, rfl, by decide +kernel, rfl, by decide +kernel, by decide +kernel⟩
abbrev s__law_part_good : Stmt := topS 67
abbrev N__law_part_good : List Str := ["_law_weaving_here", "_law_web_here", "_law_events_here", "_law_chosen", "_law_piece", "_law_due", "_law_event"]
theorem sc__law_part_good : FnScope N__law_part_good ["_law_weaving_here", "_law_web_here", "_law_events_here", "_law_chosen"] (defScope s__law_part_good) := ⟨rfl, rfl, rfl, by decide +kernel, rfl, by decide +kernel, by decide +kernel⟩
abbrev s__law_kept : Stmt := topS 68
abbrev N__law_kept : List Str := ["_law_weaving_here", "_law_events_here", "_law_names", "_law_out", "_law_rest", "_law_before", "_law_name", "_law_read"]
theorem sc__law_kept : FnScope N__law_kept ["_law_weaving_here", "_law_events_here", "_law_names", "_law_out"] (defScope s__law_kept) := ⟨rfl, rfl, rfl, by decide +kernel, rfl, by decide +kernel, by decide +kernel⟩
abbrev s__law_apart : Stmt := topS 69
abbrev N__law_apart : List Str := ["_law_weaving_here", "_law_events_here", "_law_names", "_law_things_here", "_law_piece", "_law_thing"]
theorem sc__law_apart : FnScope N__law_apart ["_law_weaving_here", "_law_events_here", "_law_names", "_law_things_here"] (defScope s__law_apart) := ⟨rfl, rfl, rfl, by decide +kernel, rfl, by decide +kernel, by decide +kernel⟩
abbrev s__law_same : Stmt := topS 47
abbrev N__law_same : List Str := ["_law_actual", "_law_expected", "_law_k"]
theorem sc__law_same : FnScope N__law_same ["_law_actual", "_law_expected"] (defScope s__law_same) := ⟨rfl, rfl, rfl, by decide +kernel, rfl, by decide +kernel, by decide +kernel⟩
abbrev s_law : Stmt := topS 70
abbrev N_law : List Str := ["_law_script", "_law_draws_here", "_law_at", "_law_rows_here", "_law_rules_here", "_law_things_here", "_law_names", "_law_mask", "_law_chosen", "_law_events_here", "_law_web_here", "_law_weaving_here", "_law_handed", "_law_due", "_law_stray", "_law_k", "_law_event", "_law_read"]
theorem sc_law : FnScope N_law ["_law_script"] (defScope s_law) := ⟨rfl, rfl, rfl, by decide +kernel, rfl, by decide +kernel, by decide +kernel⟩
abbrev s_is_mark : Stmt := topS 37
abbrev N_is_mark : List Str := ["text", "sign"]
theorem sc_is_mark : FnScope N_is_mark ["text"] (defScope s_is_mark) := ⟨rfl, rfl, rfl, by decide +kernel, rfl, by decide +kernel, by decide +kernel⟩
abbrev s_sound_row : Stmt := topS 38
abbrev N_sound_row : List Str := ["row", "before", "mark", "parents", "least", "most", "shared", "good", "place", "parent"]
theorem sc_sound_row : FnScope N_sound_row ["row", "before"] (defScope s_sound_row) := ⟨rfl, rfl, rfl, by decide +kernel, rfl, by decide +kernel, by decide +kernel⟩
abbrev s_barren : Stmt := topS 39
abbrev N_barren : List Str := ["rows", "known", "grown", "row", "mark", "parents", "least", "_", "parent"]
theorem sc_barren : FnScope N_barren ["rows"] (defScope s_barren) := ⟨rfl, rfl, rfl, by decide +kernel, rfl, by decide +kernel, by decide +kernel⟩
abbrev s_Shapedd_initdd : Stmt := inClass (topS 40) 2
abbrev N_Shapedd_initdd : List Str := ["self", "rows", "listed", "marks", "row", "lost", "parent"]
theorem sc_Shapedd_initdd : FnScope N_Shapedd_initdd ["self", "rows"] (defScope s_Shapedd_initdd) := ⟨rfl, rfl, rfl, by decide +kernel, rfl, by decide +kernel, by decide +kernel⟩
abbrev s_Shapedd_getitemdd : Stmt := inClass (topS 40) 3
abbrev N_Shapedd_getitemdd : List Str := ["self", "mark", "row"]
theorem sc_Shapedd_getitemdd : FnScope N_Shapedd_getitemdd ["self", "mark"] (defScope s_Shapedd_getitemdd) := ⟨rfl, rfl, rfl, by decide +kernel, rfl, by decide +kernel, by decide +kernel⟩
abbrev s_Shapedd_eqdd : Stmt := inClass (topS 40) 7
abbrev N_Shapedd_eqdd : List Str := ["self", "other"]
theorem sc_Shapedd_eqdd : FnScope N_Shapedd_eqdd ["self", "other"] (defScope s_Shapedd_eqdd) := ⟨rfl, rfl, rfl, by decide +kernel, rfl, by decide +kernel, by decide +kernel⟩
abbrev s_Shape_modes_of : Stmt := inClass (topS 40) 10
abbrev N_Shape_modes_of : List Str := ["self", "mark"]
theorem sc_Shape_modes_of : FnScope N_Shape_modes_of ["self", "mark"] (defScope s_Shape_modes_of) := ⟨rfl, rfl, rfl, by decide +kernel, rfl, by decide +kernel, by decide +kernel⟩
abbrev s_suitable : Stmt := topS 42
abbrev N_suitable : List Str := ["web", "row", "parents", "place", "parent"]
theorem sc_suitable : FnScope N_suitable ["web", "row", "parents"] (defScope s_suitable) := ⟨rfl, rfl, rfl, by decide +kernel, rfl, by decide +kernel, by decide +kernel⟩
abbrev s_Webdd_initdd : Stmt := inClass (topS 43) 1
abbrev N_Webdd_initdd : List Str := ["self", "shape"]
theorem sc_Webdd_initdd : FnScope N_Webdd_initdd ["self", "shape"] (defScope s_Webdd_initdd) := ⟨rfl, rfl, rfl, by decide +kernel, rfl, by decide +kernel, by decide +kernel⟩
abbrev s_Web_put : Stmt := inClass (topS 43) 2
abbrev N_Web_put : List Str := ["self", "mark", "parents", "row", "parent", "number"]
theorem sc_Web_put : FnScope N_Web_put ["self", "mark", "parents"] (defScope s_Web_put) := ⟨rfl, rfl, rfl, by decide +kernel, rfl, by decide +kernel, by decide +kernel⟩
abbrev s_Webdd_getitemdd : Stmt := inClass (topS 43) 3
abbrev N_Webdd_getitemdd : List Str := ["self", "thing"]
theorem sc_Webdd_getitemdd : FnScope N_Webdd_getitemdd ["self", "thing"] (defScope s_Webdd_getitemdd) := ⟨rfl, rfl, rfl, by decide +kernel, rfl, by decide +kernel, by decide +kernel⟩
abbrev s_Webdd_containsdd : Stmt := inClass (topS 43) 6
abbrev N_Webdd_containsdd : List Str := ["self", "thing"]
theorem sc_Webdd_containsdd : FnScope N_Webdd_containsdd ["self", "thing"] (defScope s_Webdd_containsdd) := ⟨rfl, rfl, rfl, by decide +kernel, rfl, by decide +kernel, by decide +kernel⟩
abbrev s_Webdd_eqdd : Stmt := inClass (topS 43) 7
abbrev N_Webdd_eqdd : List Str := ["self", "other"]
theorem sc_Webdd_eqdd : FnScope N_Webdd_eqdd ["self", "other"] (defScope s_Webdd_eqdd) := ⟨rfl, rfl, rfl, by decide +kernel, rfl, by decide +kernel, by decide +kernel⟩
abbrev s_Web_mark_of : Stmt := inClass (topS 43) 8
abbrev N_Web_mark_of : List Str := ["self", "thing"]
theorem sc_Web_mark_of : FnScope N_Web_mark_of ["self", "thing"] (defScope s_Web_mark_of) := ⟨rfl, rfl, rfl, by decide +kernel, rfl, by decide +kernel, by decide +kernel⟩
abbrev s_Standingdd_initdd : Stmt := inClass (topS 28) 0
abbrev N_Standingdd_initdd : List Str := ["self", "web"]
theorem sc_Standingdd_initdd : FnScope N_Standingdd_initdd ["self", "web"] (defScope s_Standingdd_initdd) := ⟨rfl, rfl, rfl, by decide +kernel, rfl, by decide +kernel, by decide +kernel⟩
abbrev s_Standing_check : Stmt := inClass (topS 28) 1
abbrev N_Standing_check : List Str := ["self", "step", "deed", "thing"]
theorem sc_Standing_check : FnScope N_Standing_check ["self", "step"] (defScope s_Standing_check) := ⟨rfl, rfl, rfl, by decide +kernel, rfl, by decide +kernel, by decide +kernel⟩
abbrev s_Standing_take : Stmt := inClass (topS 28) 2
abbrev N_Standing_take : List Str := ["self", "step", "deed", "thing"]
theorem sc_Standing_take : FnScope N_Standing_take ["self", "step"] (defScope s_Standing_take) := ⟨rfl, rfl, rfl, by decide +kernel, rfl, by decide +kernel, by decide +kernel⟩
abbrev s_Standing_held_mode : Stmt := inClass (topS 28) 7
abbrev N_Standing_held_mode : List Str := ["self", "thing"]
theorem sc_Standing_held_mode : FnScope N_Standing_held_mode ["self", "thing"] (defScope s_Standing_held_mode) := ⟨rfl, rfl, rfl, by decide +kernel, rfl, by decide +kernel, by decide +kernel⟩
abbrev s_Standing_copy : Stmt := inClass (topS 28) 12
abbrev N_Standing_copy : List Str := ["self", "twin", "thing", "mode"]
theorem sc_Standing_copy : FnScope N_Standing_copy ["self"] (defScope s_Standing_copy) := ⟨rfl, rfl, rfl, by decide +kernel, rfl, by decide +kernel, by decide +kernel⟩
abbrev s_Weavingdd_initdd : Stmt := inClass (topS 30) 0
abbrev N_Weavingdd_initdd : List Str := ["self", "web"]
theorem sc_Weavingdd_initdd : FnScope N_Weavingdd_initdd ["self", "web"] (defScope s_Weavingdd_initdd) := ⟨rfl, rfl, rfl, by decide +kernel, rfl, by decide +kernel, by decide +kernel⟩
abbrev s_Weaving_add : Stmt := inClass (topS 30) 1
abbrev N_Weaving_add : List Str := ["self", "name", "step", "deed", "thing", "standing", "holder", "mode", "lockers", "other"]
theorem sc_Weaving_add : FnScope N_Weaving_add ["self", "name", "step"] (defScope s_Weaving_add) := ⟨rfl, rfl, rfl, by decide +kernel, rfl, by decide +kernel, by decide +kernel⟩
abbrev s_Weavingdd_iterdd : Stmt := inClass (topS 30) 3
abbrev N_Weavingdd_iterdd : List Str := ["self"]
theorem sc_Weavingdd_iterdd : FnScope N_Weavingdd_iterdd ["self"] (defScope s_Weavingdd_iterdd) := ⟨rfl, rfl, rfl, by decide +kernel, rfl, by decide +kernel, by decide +kernel⟩
abbrev s_Weavingdd_lendd : Stmt := inClass (topS 30) 4
abbrev N_Weavingdd_lendd : List Str := ["self"]
theorem sc_Weavingdd_lendd : FnScope N_Weavingdd_lendd ["self"] (defScope s_Weavingdd_lendd) := ⟨rfl, rfl, rfl, by decide +kernel, rfl, by decide +kernel, by decide +kernel⟩
abbrev s_Weavingddascending : Stmt := inClass (topS 30) 6
abbrev N_Weavingddascending : List Str := ["self", "name"]
theorem sc_Weavingddascending : FnScope N_Weavingddascending ["self"] (defScope s_Weavingddascending) := ⟨rfl, rfl, rfl, by decide +kernel, rfl, by decide +kernel, by decide +kernel⟩
abbrev s_Weaving_standing_of : Stmt := inClass (topS 30) 7
abbrev N_Weaving_standing_of : List Str := ["self", "name"]
theorem sc_Weaving_standing_of : FnScope N_Weaving_standing_of ["self", "name"] (defScope s_Weaving_standing_of) := ⟨rfl, rfl, rfl, by decide +kernel, rfl, by decide +kernel, by decide +kernel⟩
abbrev s_Weaving_holders : Stmt := inClass (topS 30) 9
abbrev N_Weaving_holders : List Str := ["self", "thing", "found", "name", "mode"]
theorem sc_Weaving_holders : FnScope N_Weaving_holders ["self", "thing"] (defScope s_Weaving_holders) := ⟨rfl, rfl, rfl, by decide +kernel, rfl, by decide +kernel, by decide +kernel⟩
abbrev s_Weaving_reads : Stmt := inClass (topS 30) 14
abbrev N_Weaving_reads : List Str := ["self", "found", "last", "name", "step", "deed", "thing"]
theorem sc_Weaving_reads : FnScope N_Weaving_reads ["self"] (defScope s_Weaving_reads) := ⟨rfl, rfl, rfl, by decide +kernel, rfl, by decide +kernel, by decide +kernel⟩
abbrev s_Weaving_names : Stmt := inClass (topS 30) 5
abbrev N_Weaving_names : List Str := ["self"]
theorem sc_Weaving_names : FnScope N_Weaving_names ["self"] (defScope s_Weaving_names) := ⟨rfl, rfl, rfl, by decide +kernel, rfl, by decide +kernel, by decide +kernel⟩
abbrev s_Weaving_edges : Stmt := inClass (topS 30) 10
abbrev N_Weaving_edges : List Str := ["self", "names", "first", "second"]
theorem sc_Weaving_edges : GScope N_Weaving_edges ["self"] (defScope s_Weaving_edges) := ⟨rfl, rfl, rfl, by decide +kernel, rfl, by decide +kernel, by decide +kernel⟩
abbrev s_part : Stmt := topS 32
abbrev N_part : List Str := ["weaving", "names", "twin", "name", "step"]
theorem sc_part : FnScope N_part ["weaving", "names"] (defScope s_part) := ⟨rfl, rfl, rfl, by decide +kernel, rfl, by decide +kernel, by decide +kernel⟩
abbrev s_followers : Stmt := topS 33
abbrev N_followers : List Str := ["weaving", "names", "found", "reads", "grown", "name", "thing", "source"]
theorem sc_followers : FnScope N_followers ["weaving", "names"] (defScope s_followers) := ⟨rfl, rfl, rfl, by decide +kernel, rfl, by decide +kernel, by decide +kernel⟩
/-- what the head tells -/
structure Txt (K : PySem.W.Frag) (mg : Str → Option Value) : Prop where
  f__law_draws : FnAt K "_law_draws" "_law_draws" s__law_draws (He.ga K "_law_draws")
  g__law_draws : mg "_law_draws" = some (.ref (He.ga K "_law_draws"))
  f__law_take : FnAt K "_law_take" "_law_take" s__law_take (He.ga K "_law_take")
  g__law_take : mg "_law_take" = some (.ref (He.ga K "_law_take"))
  f__law_marks : FnAt K "_law_marks" "_law_marks" s__law_marks (He.ga K "_law_marks")
  g__law_marks : mg "_law_marks" = some (.ref (He.ga K "_law_marks"))
  f__law_rows : FnAt K "_law_rows" "_law_rows" s__law_rows (He.ga K "_law_rows")
  g__law_rows : mg "_law_rows" = some (.ref (He.ga K "_law_rows"))
  f__law_way : FnAt K "_law_way" "_law_way" s__law_way (He.ga K "_law_way")
  g__law_way : mg "_law_way" = some (.ref (He.ga K "_law_way"))
  f__law_rules : FnAt K "_law_rules" "_law_rules" s__law_rules (He.ga K "_law_rules")
  g__law_rules : mg "_law_rules" = some (.ref (He.ga K "_law_rules"))
  f__law_free_rules : FnAt K "_law_free_rules" "_law_free_rules" s__law_free_rules (He.ga K "_law_free_rules")
  g__law_free_rules : mg "_law_free_rules" = some (.ref (He.ga K "_law_free_rules"))
  f__law_things : FnAt K "_law_things" "_law_things" s__law_things (He.ga K "_law_things")
  g__law_things : mg "_law_things" = some (.ref (He.ga K "_law_things"))
  f__law_number : FnAt K "_law_number" "_law_number" s__law_number (He.ga K "_law_number")
  g__law_number : mg "_law_number" = some (.ref (He.ga K "_law_number"))
  f__law_lets : FnAt K "_law_lets" "_law_lets" s__law_lets (He.ga K "_law_lets")
  g__law_lets : mg "_law_lets" = some (.ref (He.ga K "_law_lets"))
  f__law_do : FnAt K "_law_do" "_law_do" s__law_do (He.ga K "_law_do")
  g__law_do : mg "_law_do" = some (.ref (He.ga K "_law_do"))
  f__law_open : FnAt K "_law_open" "_law_open" s__law_open (He.ga K "_law_open")
  g__law_open : mg "_law_open" = some (.ref (He.ga K "_law_open"))
  f__law_free : FnAt K "_law_free" "_law_free" s__law_free (He.ga K "_law_free")
  g__law_free : mg "_law_free" = some (.ref (He.ga K "_law_free"))
  f__law_events : FnAt K "_law_events" "_law_events" s__law_events (He.ga K "_law_events")
  g__law_events : mg "_law_events" = some (.ref (He.ga K "_law_events"))
  f__law_edges : FnAt K "_law_edges" "_law_edges" s__law_edges (He.ga K "_law_edges")
  g__law_edges : mg "_law_edges" = some (.ref (He.ga K "_law_edges"))
  f__law_ascending : FnAt K "_law_ascending" "_law_ascending" s__law_ascending (He.ga K "_law_ascending")
  g__law_ascending : mg "_law_ascending" = some (.ref (He.ga K "_law_ascending"))
  f__law_shape : FnAt K "_law_shape" "_law_shape" s__law_shape (He.ga K "_law_shape")
  g__law_shape : mg "_law_shape" = some (.ref (He.ga K "_law_shape"))
  f__law_web : FnAt K "_law_web" "_law_web" s__law_web (He.ga K "_law_web")
  g__law_web : mg "_law_web" = some (.ref (He.ga K "_law_web"))
  f__law_weaving : FnAt K "_law_weaving" "_law_weaving" s__law_weaving (He.ga K "_law_weaving")
  g__law_weaving : mg "_law_weaving" = some (.ref (He.ga K "_law_weaving"))
  f__law_reads : FnAt K "_law_reads" "_law_reads" s__law_reads (He.ga K "_law_reads")
  g__law_reads : mg "_law_reads" = some (.ref (He.ga K "_law_reads"))
  f__law_followers : FnAt K "_law_followers" "_law_followers" s__law_followers (He.ga K "_law_followers")
  g__law_followers : mg "_law_followers" = some (.ref (He.ga K "_law_followers"))
  f__law_part_good : FnAt K "_law_part_good" "_law_part_good" s__law_part_good (He.ga K "_law_part_good")
  g__law_part_good : mg "_law_part_good" = some (.ref (He.ga K "_law_part_good"))
  f__law_kept : FnAt K "_law_kept" "_law_kept" s__law_kept (He.ga K "_law_kept")
  g__law_kept : mg "_law_kept" = some (.ref (He.ga K "_law_kept"))
  f__law_apart : FnAt K "_law_apart" "_law_apart" s__law_apart (He.ga K "_law_apart")
  g__law_apart : mg "_law_apart" = some (.ref (He.ga K "_law_apart"))
  f__law_same : FnAt K "_law_same" "_law_same" s__law_same (He.ga K "_law_same")
  g__law_same : mg "_law_same" = some (.ref (He.ga K "_law_same"))
  f_law : FnAt K "law" "law" s_law (He.ga K "law")
  g_law : mg "law" = some (.ref (He.ga K "law"))
  f_is_mark : FnAt K "is_mark" "is_mark" s_is_mark (He.ga K "is_mark")
  g_is_mark : mg "is_mark" = some (.ref (He.ga K "is_mark"))
  f_sound_row : FnAt K "sound_row" "sound_row" s_sound_row (He.ga K "sound_row")
  g_sound_row : mg "sound_row" = some (.ref (He.ga K "sound_row"))
  f_barren : FnAt K "barren" "barren" s_barren (He.ga K "barren")
  g_barren : mg "barren" = some (.ref (He.ga K "barren"))
  f_Shapedd_initdd : FnAt K "__init__" "Shape.__init__" s_Shapedd_initdd (He.ma K (He.ga K "Shape") "__init__")
  g_Shapedd_initdd : mg "Shape" = some (.ref (He.ga K "Shape"))
  mk_Shape : Mk K (He.ga K "Shape") (He.ma K (He.ga K "Shape") "__init__")
  f_Shapedd_getitemdd : FnAt K "__getitem__" "Shape.__getitem__" s_Shapedd_getitemdd (He.ma K (He.ga K "Shape") "__getitem__")
  m_Shapedd_getitemdd : Meth K (He.ga K "Shape") "__getitem__" (He.ma K (He.ga K "Shape") "__getitem__")
  f_Shapedd_eqdd : FnAt K "__eq__" "Shape.__eq__" s_Shapedd_eqdd (He.ma K (He.ga K "Shape") "__eq__")
  m_Shapedd_eqdd : Meth K (He.ga K "Shape") "__eq__" (He.ma K (He.ga K "Shape") "__eq__")
  f_Shape_modes_of : FnAt K "modes_of" "Shape.modes_of" s_Shape_modes_of (He.ma K (He.ga K "Shape") "modes_of")
  m_Shape_modes_of : Meth K (He.ga K "Shape") "modes_of" (He.ma K (He.ga K "Shape") "modes_of")
  f_suitable : FnAt K "suitable" "suitable" s_suitable (He.ga K "suitable")
  g_suitable : mg "suitable" = some (.ref (He.ga K "suitable"))
  f_Webdd_initdd : FnAt K "__init__" "Web.__init__" s_Webdd_initdd (He.ma K (He.ga K "Web") "__init__")
  g_Webdd_initdd : mg "Web" = some (.ref (He.ga K "Web"))
  mk_Web : Mk K (He.ga K "Web") (He.ma K (He.ga K "Web") "__init__")
  f_Web_put : FnAt K "put" "Web.put" s_Web_put (He.ma K (He.ga K "Web") "put")
  m_Web_put : Meth K (He.ga K "Web") "put" (He.ma K (He.ga K "Web") "put")
  f_Webdd_getitemdd : FnAt K "__getitem__" "Web.__getitem__" s_Webdd_getitemdd (He.ma K (He.ga K "Web") "__getitem__")
  m_Webdd_getitemdd : Meth K (He.ga K "Web") "__getitem__" (He.ma K (He.ga K "Web") "__getitem__")
  f_Webdd_containsdd : FnAt K "__contains__" "Web.__contains__" s_Webdd_containsdd (He.ma K (He.ga K "Web") "__contains__")
  m_Webdd_containsdd : Meth K (He.ga K "Web") "__contains__" (He.ma K (He.ga K "Web") "__contains__")
  f_Webdd_eqdd : FnAt K "__eq__" "Web.__eq__" s_Webdd_eqdd (He.ma K (He.ga K "Web") "__eq__")
  m_Webdd_eqdd : Meth K (He.ga K "Web") "__eq__" (He.ma K (He.ga K "Web") "__eq__")
  f_Web_mark_of : FnAt K "mark_of" "Web.mark_of" s_Web_mark_of (He.ma K (He.ga K "Web") "mark_of")
  m_Web_mark_of : Meth K (He.ga K "Web") "mark_of" (He.ma K (He.ga K "Web") "mark_of")
  f_Standingdd_initdd : FnAt K "__init__" "Standing.__init__" s_Standingdd_initdd (He.ma K (He.ga K "Standing") "__init__")
  g_Standingdd_initdd : mg "Standing" = some (.ref (He.ga K "Standing"))
  mk_Standing : Mk K (He.ga K "Standing") (He.ma K (He.ga K "Standing") "__init__")
  f_Standing_check : FnAt K "check" "Standing.check" s_Standing_check (He.ma K (He.ga K "Standing") "check")
  m_Standing_check : Meth K (He.ga K "Standing") "check" (He.ma K (He.ga K "Standing") "check")
  f_Standing_take : FnAt K "take" "Standing.take" s_Standing_take (He.ma K (He.ga K "Standing") "take")
  m_Standing_take : Meth K (He.ga K "Standing") "take" (He.ma K (He.ga K "Standing") "take")
  f_Standing_held_mode : FnAt K "held_mode" "Standing.held_mode" s_Standing_held_mode (He.ma K (He.ga K "Standing") "held_mode")
  m_Standing_held_mode : Meth K (He.ga K "Standing") "held_mode" (He.ma K (He.ga K "Standing") "held_mode")
  f_Standing_copy : FnAt K "copy" "Standing.copy" s_Standing_copy (He.ma K (He.ga K "Standing") "copy")
  m_Standing_copy : Meth K (He.ga K "Standing") "copy" (He.ma K (He.ga K "Standing") "copy")
  f_Weavingdd_initdd : FnAt K "__init__" "Weaving.__init__" s_Weavingdd_initdd (He.ma K (He.ga K "Weaving") "__init__")
  g_Weavingdd_initdd : mg "Weaving" = some (.ref (He.ga K "Weaving"))
  mk_Weaving : Mk K (He.ga K "Weaving") (He.ma K (He.ga K "Weaving") "__init__")
  f_Weaving_add : FnAt K "add" "Weaving.add" s_Weaving_add (He.ma K (He.ga K "Weaving") "add")
  m_Weaving_add : Meth K (He.ga K "Weaving") "add" (He.ma K (He.ga K "Weaving") "add")
  f_Weavingdd_iterdd : FnAt K "__iter__" "Weaving.__iter__" s_Weavingdd_iterdd (He.ma K (He.ga K "Weaving") "__iter__")
  m_Weavingdd_iterdd : Meth K (He.ga K "Weaving") "__iter__" (He.ma K (He.ga K "Weaving") "__iter__")
  f_Weavingdd_lendd : FnAt K "__len__" "Weaving.__len__" s_Weavingdd_lendd (He.ma K (He.ga K "Weaving") "__len__")
  m_Weavingdd_lendd : Meth K (He.ga K "Weaving") "__len__" (He.ma K (He.ga K "Weaving") "__len__")
  f_Weavingddascending : FnAt K "_ascending" "Weaving._ascending" s_Weavingddascending (He.ma K (He.ga K "Weaving") "_ascending")
  m_Weavingddascending : Meth K (He.ga K "Weaving") "_ascending" (He.ma K (He.ga K "Weaving") "_ascending")
  f_Weaving_standing_of : FnAt K "standing_of" "Weaving.standing_of" s_Weaving_standing_of (He.ma K (He.ga K "Weaving") "standing_of")
  m_Weaving_standing_of : Meth K (He.ga K "Weaving") "standing_of" (He.ma K (He.ga K "Weaving") "standing_of")
  f_Weaving_holders : FnAt K "holders" "Weaving.holders" s_Weaving_holders (He.ma K (He.ga K "Weaving") "holders")
  m_Weaving_holders : Meth K (He.ga K "Weaving") "holders" (He.ma K (He.ga K "Weaving") "holders")
  f_Weaving_reads : FnAt K "reads" "Weaving.reads" s_Weaving_reads (He.ma K (He.ga K "Weaving") "reads")
  m_Weaving_reads : Meth K (He.ga K "Weaving") "reads" (He.ma K (He.ga K "Weaving") "reads")
  p_Weaving_names : PropAt K (He.ga K "Weaving") "names" "Weaving.names" s_Weaving_names
  f_Weaving_edges : FnAt K "edges" "Weaving.edges" s_Weaving_edges (He.ma K (He.ga K "Weaving") "edges")
  m_Weaving_edges : Meth K (He.ga K "Weaving") "edges" (He.ma K (He.ga K "Weaving") "edges")
  f_part : FnAt K "part" "part" s_part (He.ga K "part")
  g_part : mg "part" = some (.ref (He.ga K "part"))
  f_followers : FnAt K "followers" "followers" s_followers (He.ga K "followers")
  g_followers : mg "followers" = some (.ref (He.ga K "followers"))
  c_Shape : Cls K (He.ga K "Shape")
  n_Shape__listed : NoAttr K (He.ga K "Shape") "_listed"
  n_Shape__marks : NoAttr K (He.ga K "Shape") "_marks"
  c_Web : Cls K (He.ga K "Web")
  n_Web_shape : NoAttr K (He.ga K "Web") "shape"
  n_Web__rows : NoAttr K (He.ga K "Web") "_rows"
  n_Web__numbers : NoAttr K (He.ga K "Web") "_numbers"
  c_Standing : Cls K (He.ga K "Standing")
  n_Standing_web : NoAttr K (He.ga K "Standing") "web"
  n_Standing__modes : NoAttr K (He.ga K "Standing") "_modes"
  n_Standing__holds : NoAttr K (He.ga K "Standing") "_holds"
  n_Standing__loose : NoAttr K (He.ga K "Standing") "_loose"
  c_Weaving : Cls K (He.ga K "Weaving")
  n_Weaving_web : NoAttr K (He.ga K "Weaving") "web"
  n_Weaving__events : NoAttr K (He.ga K "Weaving") "_events"
  n_Weaving__standings : NoAttr K (He.ga K "Weaving") "_standings"
  n_Weaving__lockers : NoAttr K (He.ga K "Weaving") "_lockers"
  n_Weaving__edges : NoAttr K (He.ga K "Weaving") "_edges"
  z_bool : mg "bool" = none
  z_len : mg "len" = none
  z_int : mg "int" = none
  z_tuple : mg "tuple" = none
  z_list : mg "list" = none
  z_sorted : mg "sorted" = none
  z_any : mg "any" = none
  z_min : mg "min" = none
  z_isinstance : mg "isinstance" = none
  z_str : mg "str" = none
  z_range : mg "range" = none
  z_enumerate : mg "enumerate" = none
  z_iter : mg "iter" = none
  k_DEEDS : ∃ u, mg "DEEDS" = some u ∧ RelV (.ref (He.ga K "DEEDS")) u
  i_DEEDS : GlR (.ref (He.ga K "DEEDS")) (rTk K ((["own", "share", "drop"] : List Str).map rS))
  k_DIGITS : ∃ u, mg "DIGITS" = some u ∧ RelV (.str "0123456789") u
  k_LETTERS : ∃ u, mg "LETTERS" = some u ∧ RelV (.str "abcdefghijklmnopqrstuvwxyz") u
  k_MODES : ∃ u, mg "MODES" = some u ∧ RelV (.ref (He.ga K "MODES")) u
  i_MODES : GlR (.ref (He.ga K "MODES")) (rTk K ((["own", "share"] : List Str).map rS))
  i_Shape : C8.InsC K (He.ga K "Shape")
  i_Web : C8.InsC K (He.ga K "Web")
  v_Shape_MARKS : ClsVal K (He.ga K "Shape") "MARKS" (.int 6)
  v_Shape_PARENTS : ClsVal K (He.ga K "Shape") "PARENTS" (.int 4)
  v_Web_MOST : ClsVal K (He.ga K "Web") "MOST" (.int 1000)
theorem iterm_Weaving {K : PySem.W.Frag} {mg : Str → Option Value} (T : Txt K mg) : IterM K mg (He.ga K "Weaving") (He.ma K (He.ga K "Weaving") "__iter__") "_events" "Weaving.__iter__" s_Weavingdd_iterdd := ⟨T.c_Weaving, T.n_Weaving__events, T.z_iter, T.m_Weavingdd_iterdd.at_, T.m_Weavingdd_iterdd.fn, T.f_Weavingdd_iterdd, sc_Weavingdd_iterdd, (fun _ _ _ _ _ _ us hl => match us, hl with | [_], _ => rfl), rfl, ⟨_, _, _, _, _, rfl⟩⟩
theorem lenm_Weaving {K : PySem.W.Frag} {mg : Str → Option Value} (T : Txt K mg) : LenM K mg (He.ga K "Weaving") (He.ma K (He.ga K "Weaving") "__len__") "_events" "Weaving.__len__" s_Weavingdd_lendd := ⟨T.c_Weaving, T.n_Weaving__events, T.z_len, T.m_Weavingdd_lendd, T.f_Weavingdd_lendd, sc_Weavingdd_lendd, (fun _ _ _ _ _ _ us hl => match us, hl with | [_], _ => rfl), rfl, ⟨_, _, _, _, _, rfl⟩⟩
end W
/-! GH: facts of a head beyond HeadHook2's: classes for isinstance, class constants, tuples of texts, properties. Own work. -/
namespace G
open PySem PySem.Spec PyProof.Rows L2
inductive Xa where
  | isc (x : Str)
  | cvi (x f : Str) (i : Int)
  | tup (x : Str) (vs : List Str)
  | prop (x f : Str)
/-- the getter of the property f -/
def pg (K : PySem.W.Frag) (C : Addr) (f : Str) : Addr := match PySem.W.recIn K (He.ma K C f) "property" with
  | some (.ref g :: _) => g
  | _ => 0
def isRec (K : PySem.W.Frag) (p g : Addr) : Bool := match PySem.W.recIn K p "property" with
  | some (.ref h :: _) => decide (h = g)
  | _ => false
def Xa.ok (K : PySem.W.Frag) : Xa → Bool
  | .isc x => (He.Fa.cls x).ok K && (He.eqO (PySem.W.findIn K (.ref (He.ga K x)) "__class__") (some (some (.builtin "object.__class__"))) && (He.eqO (PySem.W.specialIn K (.builtin "object.__class__") "__get__") (some (some (.builtin "getset_descriptor.__get__"))) && (decide (PySem.W.takesIn K (.builtin "object.__class__") = some true) && (decide (PySem.W.mroIn K (He.ga K x) (.type "object") = some true) && decide (PySem.W.kitOne K (.ref (He.ga K x)) (.ref (He.ga K x)) = some true)))))
  | .cvi x f i => PySem.W.readsIn K (He.ga K x) (.type "type") && (He.eqO (PySem.W.specialIn K (.ref (He.ga K x)) "__getattribute__") (some (some (.builtin "type.__getattribute__"))) && (match PySem.W.findCls K (.ref (He.ga K x)) (.type "type") f with
    | some (.val (.int j _)) => decide (j = i)
    | _ => false))
  | .tup x vs => He.tupB K x (vs.map He.Dv.str)
  | .prop x f => He.eqO (PySem.W.findIn K (.ref (He.ga K x)) f) (some (some (.ref (He.ma K (He.ga K x) f)))) && (He.eqO (PySem.W.specialIn K (.ref (He.ma K (He.ga K x) f)) "__get__") (some (some (.builtin "property.__get__"))) && (decide (PySem.W.takesIn K (.ref (He.ma K (He.ga K x) f)) = some true) && isRec K (He.ma K (He.ga K x) f) (pg K (He.ga K x) f)))
section
variable {K : PySem.W.Frag} {x f : Str}
theorem isc_ok (c : (Xa.isc x).ok K = true) : C8.InsC K (He.ga K x) := by
  obtain ⟨c1, c⟩ := He.ba c
  obtain ⟨c2, c⟩ := He.ba c
  obtain ⟨c3, c⟩ := He.ba c
  obtain ⟨c4, c⟩ := He.ba c
  obtain ⟨c5, c6⟩ := He.ba c
  exact ⟨He.cls_ok c1, He.eqO_ok c2, He.eqO_ok c3, of_decide_eq_true c4, of_decide_eq_true c5, of_decide_eq_true c6⟩
theorem cvi_ok {i : Int} (c : (Xa.cvi x f i).ok K = true) : ClsVal K (He.ga K x) f (.int i) := by
  obtain ⟨c1, c⟩ := He.ba c
  obtain ⟨c2, c3⟩ := He.ba c
  refine ⟨.type "type", ?_⟩
  split at c3
  · rename_i j t e
    have := of_decide_eq_true c3
    subst this
    exact ⟨.int j t, ⟨c1, He.eqO_ok c2⟩, ⟨e, ⟨t, rfl⟩⟩⟩
  · cases c3
theorem strs_all {B : Hp} : ∀ vs : List Str, AllR B (vs.map rS) (vs.map V.str)
  | [] => .nil
  | _ :: vs => .cons rfl (strs_all vs)
theorem tup_ok {vs : List Str} (c : (Xa.tup x vs).ok K = true) : GlR (.ref (He.ga K x)) (rTk K (vs.map rS)) := ⟨fun B => by
  have h := He.tupB_ok (show He.tupB K x (vs.map He.Dv.str) = true from c) B
  rw [List.map_map] at h
  exact ⟨_, _, rfl, h, strs_all vs⟩⟩
theorem prop_ok (c : (Xa.prop x f).ok K = true) : PropOf K (He.ga K x) f (He.ma K (He.ga K x) f) (pg K (He.ga K x) f) := by
  obtain ⟨c1, c⟩ := He.ba c
  obtain ⟨c2, c⟩ := He.ba c
  obtain ⟨c3, c4⟩ := He.ba c
  refine ⟨He.eqO_ok c1, He.eqO_ok c2, of_decide_eq_true c3, ?_⟩
  unfold isRec at c4
  split at c4
  · rename_i h r e
    have := of_decide_eq_true c4
    exact ⟨r, by rw [e, this]⟩
  · cases c4
end
/-! ### a property's getter -/
structure PrD where
  cls : Str
  fld : Str
  qual : Str
  params : Arguments
  body : List Stmt
  scope : Scope
def fnWA (K : PySem.W.Frag) (a : Addr) : He.FnW := match K.lookup a with
  | some ⟨_, _, .func fd, _⟩ => some (fd.name, fd.qualname, fd.params, fd.body, fd.scope, fd.globals, fd.closure, fd.builtins)
  | _ => none
def PrD.adr (K : PySem.W.Frag) (d : PrD) : Addr := pg K (He.ga K d.cls) d.fld
def PrD.val (d : PrD) : He.FnW := some (d.fld, d.qual, d.params, .stmts d.body, d.scope, mainGlobals, [], builtinsNs)
def PrD.ok (K : PySem.W.Frag) (d : PrD) : Bool := PySem.W.keepIn K (.ref (d.adr K)) && (match K.lookup (d.adr K) with
  | some ⟨_, _, .func fd, _⟩ => PySem.W.codeIn K fd.code d.qual && (He.dflB K fd.defaults [] && He.kwdB K fd.kwdefaults [])
  | _ => false)
theorem PrD.funD {K : PySem.W.Frag} {d : PrD} (e : fnWA K (d.adr K) = d.val) (c : d.ok K = true) : ∃ fd, FunD K d.fld d.qual d.params d.body d.scope [] [] (d.adr K) fd := by
  obtain ⟨kp, c2⟩ := He.ba c
  unfold fnWA at e
  cases q : K.lookup (d.adr K) with
  | none =>
    rw [q] at c2
    cases c2
  | some o =>
    obtain ⟨oc, od, dt, osl⟩ := o
    rw [q] at c2 e
    cases dt with
    | func fd =>
      obtain ⟨n1, n2, n3, n4, n5, n6, n7, n8, n9, n10, n11, n12, n13, n14, n15⟩ := fd
      have e2 : (some (n1, n2, n3, n4, n5, n6, n7, n15) : He.FnW) = some (d.fld, d.qual, d.params, .stmts d.body, d.scope, mainGlobals, [], builtinsNs) := e
      simp only [Option.some.injEq, Prod.mk.injEq] at e2
      obtain ⟨h1, h2, h3, h4, h5, h6, h7, h8⟩ := e2
      subst h1 h2 h3 h4 h5 h6 h7 h8
      have c3 : (PySem.W.codeIn K n13 d.qual && (He.dflB K n8 [] && He.kwdB K n9 [])) = true := c2
      obtain ⟨k1, k2⟩ := He.ba c3
      obtain ⟨k3, k4⟩ := He.ba k2
      exact ⟨_, ⟨oc, od, n8, n9, n10, n11, n12, n13, n14, osl, rfl, q, k1, He.dflB_ok k3, He.kwdB_ok k4⟩, kp⟩
    | _ => cases c2
/-! ### the Hook -/
/-- what an object names: a namespace, a class, a def, a record -/
def refsY (o : Obj) : List Addr := match o.data with
  | .dict es _ => es.toList.flatMap fun e => He.refV e.val
  | .cls cd => [cd.ns]
  | .func fd => He.refV fd.code ++ He.refV fd.defaults
  | .fields vs => vs.toList.flatMap He.refV
  | _ => []
def layerY (g : Addr → Option Obj) (as : List Addr) : List Addr := as.flatMap fun a => match g a with
  | some o => refsY o
  | none => []
def layersY (g : Addr → Option Obj) : Nat → List Addr → List Addr
  | 0, as => as
  | n + 1, as => as ++ layersY g n (layerY g as)
def asX (g : Addr → Option Obj) (n : Nat) : List Addr := mainGlobals :: PySem.cStatics :: layersY g n (layerY g [mainGlobals])
abbrev AlX : Type := Bool × List He.FnW
def obsX (fa : List He.Fa) (fn : List He.DefD) (xa : List Xa) (pr : List PrD) (K : PySem.W.Frag) : AlX := (((fa.all fun f => f.ok K) && fn.all fun d => d.ok K) && ((xa.all fun f => f.ok K) && pr.all fun d => d.ok K), (fn.map fun d => He.fnW K d.at_) ++ pr.map fun d => fnWA K (d.adr K))
def valX (fn : List He.DefD) (pr : List PrD) : AlX := (true, fn.map He.DefD.val ++ pr.map PrD.val)
def SaysX (fa : List He.Fa) (fn : List He.DefD) (xa : List Xa) (pr : List PrD) (K : PySem.W.Frag) : Prop := obsX fa fn xa pr K = valX fn pr
def obsXG (n : Nat) (fa : List He.Fa) (fn : List He.DefD) (xa : List Xa) (pr : List PrD) (g : Addr → Option Obj) : AlX := obsX fa fn xa pr (He.frG g (asX g n))
def hookX (n : Nat) (fa : List He.Fa) (fn : List He.DefD) (xa : List Xa) (pr : List PrD) : PySem.W.Hook where
  α := AlX
  obs := fun s => obsXG n fa fn xa pr s.heap.get?
  val := fun _ => valX fn pr
  says := fun _ h => ∃ K : PySem.W.Frag, K.In h ∧ SaysX fa fn xa pr K
  of := fun _ _ e => ⟨_, He.frG_in, e⟩
  keeps := fun _ _ _ ⟨K, hK, c⟩ k => ⟨K, PySem.W.Frag.In.keeps hK k, c⟩
theorem obsXG_eq {n : Nat} {fa : List He.Fa} {fn : List He.DefD} {xa : List Xa} {pr : List PrD} {g : Addr → Option Obj} {s : Shared} (h : ∀ a, g a = s.heap.get? a) : obsXG n fa fn xa pr g = (hookX n fa fn xa pr).obs s := by
  have e : g = s.heap.get? := funext h
  rw [e] <;> rfl
section
variable {fa : List He.Fa} {fn : List He.DefD} {xa : List Xa} {pr : List PrD} {K : PySem.W.Frag}
theorem SaysX.b (c : SaysX fa fn xa pr K) : ((fa.all fun f => f.ok K) = true ∧ (fn.all fun d => d.ok K) = true) ∧ (xa.all fun f => f.ok K) = true ∧ (pr.all fun d => d.ok K) = true := by
  have c1 := He.ba (show (((fa.all fun f => f.ok K) && fn.all fun d => d.ok K) && ((xa.all fun f => f.ok K) && pr.all fun d => d.ok K)) = true from congrArg (fun z : AlX => z.1) c)
  exact ⟨He.ba c1.1, He.ba c1.2⟩
theorem SaysX.fact (c : SaysX fa fn xa pr K) (i : Nat) {f : He.Fa} (h : fa[i]? = some f := by rfl) : f.ok K = true := List.all_eq_true.mp c.b.1.1 f (List.mem_of_getElem? h)
theorem SaysX.xfact (c : SaysX fa fn xa pr K) (i : Nat) {f : Xa} (h : xa[i]? = some f := by rfl) : f.ok K = true := List.all_eq_true.mp c.b.2.1 f (List.mem_of_getElem? h)
theorem SaysX.maps (c : SaysX fa fn xa pr K) : (fn.map fun d => He.fnW K d.at_) = fn.map He.DefD.val ∧ (pr.map fun d => fnWA K (d.adr K)) = pr.map PrD.val := by
  have e : (fn.map fun d => He.fnW K d.at_) ++ (pr.map fun d => fnWA K (d.adr K)) = fn.map He.DefD.val ++ pr.map PrD.val := congrArg (fun z : AlX => z.2) c
  exact List.append_inj e (by rw [List.length_map, List.length_map])
theorem SaysX.def_ (c : SaysX fa fn xa pr K) (i : Nat) {d : He.DefD} (h : fn[i]? = some d := by rfl) : ∃ fd, FunD K d.name d.qual d.params d.body d.scope (d.dvs K) (d.kws K) (He.fAd K d.at_) fd := by
  have e2 : (fn.map fun d => He.fnW K d.at_)[i]? = (fn.map He.DefD.val)[i]? := by rw [c.maps.1]
  rw [List.getElem?_map, List.getElem?_map, h] at e2
  exact He.DefD.funD (Option.some.inj e2) (List.all_eq_true.mp c.b.1.2 d (List.mem_of_getElem? h))
theorem SaysX.prd (c : SaysX fa fn xa pr K) (i : Nat) {d : PrD} (h : pr[i]? = some d := by rfl) : ∃ fd, FunD K d.fld d.qual d.params d.body d.scope [] [] (d.adr K) fd := by
  have e2 : (pr.map fun d => fnWA K (d.adr K))[i]? = (pr.map PrD.val)[i]? := by rw [c.maps.2]
  rw [List.getElem?_map, List.getElem?_map, h] at e2
  exact PrD.funD (Option.some.inj e2) (List.all_eq_true.mp c.b.2.2 d (List.mem_of_getElem? h))
end
/-! ### the law's end -/
/-- a law's contract: any script of at most n numbers gives True -/
theorem law_end {K : PySem.W.Frag} {c : Ct} (d : List Int → c.δ) (n : Nat) (hok : ∀ ns : List Int, ns.length ≤ n → c.ok (d ns)) (hpre : ∀ ns, c.pre (d ns) = [rLk K (ns.map rI)]) (hown : ∀ ns, c.own (d ns) = []) (hret : ∀ ns e, c.post (d ns) e → c.ret (d ns) e = rB true)
    (H : Hp) (a : Addr) (ns : List Int) (hl : ns.length ≤ n) (hS : SqL K H a (ns.map V.int)) : Fn c [.ref a] H (fun v _ => v = .bl true) fun _ _ _ => False := by
  refine ⟨d ns, fun _ => none, H, [], [], hok ns hl, ⟨fun a o e => by unfold rdL; exact e, (fun a od e => nomatch e), (fun h hh => nomatch hh), (fun h hh => nomatch hh), fun i j h g _ e => by simp at e⟩, ?_, ?_, ?_⟩
  · rw [hown]; exact .nil
  · rw [hpre]
    exact .cons ⟨a, _, rfl, hS, rI_all ns⟩ .nil
  · intro e v H' B' hs' hp _ _ _ hv
    rw [hret ns e hp] at hv
    exact hv
end G
namespace W
open PySem PySem.Spec PyProof.Rows L2 C8 G
/-! the head of the law: its facts by names, its run -/
def dF__law_draws : He.DefD := ⟨("_law_draws", none), "_law_draws", "_law_draws", defArgs s__law_draws, defBody s__law_draws, defScope s__law_draws, [], []⟩
def dF__law_take : He.DefD := ⟨("_law_take", none), "_law_take", "_law_take", defArgs s__law_take, defBody s__law_take, defScope s__law_take, [], []⟩
def dF__law_marks : He.DefD := ⟨("_law_marks", none), "_law_marks", "_law_marks", defArgs s__law_marks, defBody s__law_marks, defScope s__law_marks, [], []⟩
def dF__law_rows : He.DefD := ⟨("_law_rows", none), "_law_rows", "_law_rows", defArgs s__law_rows, defBody s__law_rows, defScope s__law_rows, [], []⟩
def dF__law_way : He.DefD := ⟨("_law_way", none), "_law_way", "_law_way", defArgs s__law_way, defBody s__law_way, defScope s__law_way, [], []⟩
def dF__law_rules : He.DefD := ⟨("_law_rules", none), "_law_rules", "_law_rules", defArgs s__law_rules, defBody s__law_rules, defScope s__law_rules, [], []⟩
def dF__law_free_rules : He.DefD := ⟨("_law_free_rules", none), "_law_free_rules", "_law_free_rules", defArgs s__law_free_rules, defBody s__law_free_rules, defScope s__law_free_rules, [], []⟩
def dF__law_things : He.DefD := ⟨("_law_things", none), "_law_things", "_law_things", defArgs s__law_things, defBody s__law_things, defScope s__law_things, [], []⟩
def dF__law_number : He.DefD := ⟨("_law_number", none), "_law_number", "_law_number", defArgs s__law_number, defBody s__law_number, defScope s__law_number, [], []⟩
def dF__law_lets : He.DefD := ⟨("_law_lets", none), "_law_lets", "_law_lets", defArgs s__law_lets, defBody s__law_lets, defScope s__law_lets, [], []⟩
def dF__law_do : He.DefD := ⟨("_law_do", none), "_law_do", "_law_do", defArgs s__law_do, defBody s__law_do, defScope s__law_do, [], []⟩
def dF__law_open : He.DefD := ⟨("_law_open", none), "_law_open", "_law_open", defArgs s__law_open, defBody s__law_open, defScope s__law_open, [], []⟩
def dF__law_free : He.DefD := ⟨("_law_free", none), "_law_free", "_law_free", defArgs s__law_free, defBody s__law_free, defScope s__law_free, [], []⟩
def dF__law_events : He.DefD := ⟨("_law_events", none), "_law_events", "_law_events", defArgs s__law_events, defBody s__law_events, defScope s__law_events, [], []⟩
def dF__law_edges : He.DefD := ⟨("_law_edges", none), "_law_edges", "_law_edges", defArgs s__law_edges, defBody s__law_edges, defScope s__law_edges, [], []⟩
def dF__law_ascending : He.DefD := ⟨("_law_ascending", none), "_law_ascending", "_law_ascending", defArgs s__law_ascending, defBody s__law_ascending, defScope s__law_ascending, [], []⟩
def dF__law_shape : He.DefD := ⟨("_law_shape", none), "_law_shape", "_law_shape", defArgs s__law_shape, defBody s__law_shape, defScope s__law_shape, [], []⟩
def dF__law_web : He.DefD := ⟨("_law_web", none), "_law_web", "_law_web", defArgs s__law_web, defBody s__law_web, defScope s__law_web, [], []⟩
def dF__law_weaving : He.DefD := ⟨("_law_weaving", none), "_law_weaving", "_law_weaving", defArgs s__law_weaving, defBody s__law_weaving, defScope s__law_weaving, [], []⟩
def dF__law_reads : He.DefD := ⟨("_law_reads", none), "_law_reads", "_law_reads", defArgs s__law_reads, defBody s__law_reads, defScope s__law_reads, [], []⟩
def dF__law_followers : He.DefD := ⟨("_law_followers", none), "_law_followers", "_law_followers", defArgs s__law_followers, defBody s__law_followers, defScope s__law_followers, [], []⟩
def dF__law_part_good : He.DefD := ⟨("_law_part_good", none), "_law_part_good", "_law_part_good", defArgs s__law_part_good, defBody s__law_part_good, defScope s__law_part_good, [], []⟩
def dF__law_kept : He.DefD := ⟨("_law_kept", none), "_law_kept", "_law_kept", defArgs s__law_kept, defBody s__law_kept, defScope s__law_kept, [], []⟩
def dF__law_apart : He.DefD := ⟨("_law_apart", none), "_law_apart", "_law_apart", defArgs s__law_apart, defBody s__law_apart, defScope s__law_apart, [], []⟩
def dF__law_same : He.DefD := ⟨("_law_same", none), "_law_same", "_law_same", defArgs s__law_same, defBody s__law_same, defScope s__law_same, [], []⟩
def dF_law : He.DefD := ⟨("law", none), "law", "law", defArgs s_law, defBody s_law, defScope s_law, [], []⟩
def dF_is_mark : He.DefD := ⟨("is_mark", none), "is_mark", "is_mark", defArgs s_is_mark, defBody s_is_mark, defScope s_is_mark, [], []⟩
def dF_sound_row : He.DefD := ⟨("sound_row", none), "sound_row", "sound_row", defArgs s_sound_row, defBody s_sound_row, defScope s_sound_row, [], []⟩
def dF_barren : He.DefD := ⟨("barren", none), "barren", "barren", defArgs s_barren, defBody s_barren, defScope s_barren, [], []⟩
def dF_Shapedd_initdd : He.DefD := ⟨("Shape", some "__init__"), "__init__", "Shape.__init__", defArgs s_Shapedd_initdd, defBody s_Shapedd_initdd, defScope s_Shapedd_initdd, [], []⟩
def dF_Shapedd_getitemdd : He.DefD := ⟨("Shape", some "__getitem__"), "__getitem__", "Shape.__getitem__", defArgs s_Shapedd_getitemdd, defBody s_Shapedd_getitemdd, defScope s_Shapedd_getitemdd, [], []⟩
def dF_Shapedd_eqdd : He.DefD := ⟨("Shape", some "__eq__"), "__eq__", "Shape.__eq__", defArgs s_Shapedd_eqdd, defBody s_Shapedd_eqdd, defScope s_Shapedd_eqdd, [], []⟩
def dF_Shape_modes_of : He.DefD := ⟨("Shape", some "modes_of"), "modes_of", "Shape.modes_of", defArgs s_Shape_modes_of, defBody s_Shape_modes_of, defScope s_Shape_modes_of, [], []⟩
def dF_suitable : He.DefD := ⟨("suitable", none), "suitable", "suitable", defArgs s_suitable, defBody s_suitable, defScope s_suitable, [], []⟩
def dF_Webdd_initdd : He.DefD := ⟨("Web", some "__init__"), "__init__", "Web.__init__", defArgs s_Webdd_initdd, defBody s_Webdd_initdd, defScope s_Webdd_initdd, [], []⟩
def dF_Web_put : He.DefD := ⟨("Web", some "put"), "put", "Web.put", defArgs s_Web_put, defBody s_Web_put, defScope s_Web_put, [], []⟩
def dF_Webdd_getitemdd : He.DefD := ⟨("Web", some "__getitem__"), "__getitem__", "Web.__getitem__", defArgs s_Webdd_getitemdd, defBody s_Webdd_getitemdd, defScope s_Webdd_getitemdd, [], []⟩
def dF_Webdd_containsdd : He.DefD := ⟨("Web", some "__contains__"), "__contains__", "Web.__contains__", defArgs s_Webdd_containsdd, defBody s_Webdd_containsdd, defScope s_Webdd_containsdd, [], []⟩
def dF_Webdd_eqdd : He.DefD := ⟨("Web", some "__eq__"), "__eq__", "Web.__eq__", defArgs s_Webdd_eqdd, defBody s_Webdd_eqdd, defScope s_Webdd_eqdd, [], []⟩
def dF_Web_mark_of : He.DefD := ⟨("Web", some "mark_of"), "mark_of", "Web.mark_of", defArgs s_Web_mark_of, defBody s_Web_mark_of, defScope s_Web_mark_of, [], []⟩
def dF_Standingdd_initdd : He.DefD := ⟨("Standing", some "__init__"), "__init__", "Standing.__init__", defArgs s_Standingdd_initdd, defBody s_Standingdd_initdd, defScope s_Standingdd_initdd, [], []⟩
def dF_Standing_check : He.DefD := ⟨("Standing", some "check"), "check", "Standing.check", defArgs s_Standing_check, defBody s_Standing_check, defScope s_Standing_check, [], []⟩
def dF_Standing_take : He.DefD := ⟨("Standing", some "take"), "take", "Standing.take", defArgs s_Standing_take, defBody s_Standing_take, defScope s_Standing_take, [], []⟩
def dF_Standing_held_mode : He.DefD := ⟨("Standing", some "held_mode"), "held_mode", "Standing.held_mode", defArgs s_Standing_held_mode, defBody s_Standing_held_mode, defScope s_Standing_held_mode, [], []⟩
def dF_Standing_copy : He.DefD := ⟨("Standing", some "copy"), "copy", "Standing.copy", defArgs s_Standing_copy, defBody s_Standing_copy, defScope s_Standing_copy, [], []⟩
def dF_Weavingdd_initdd : He.DefD := ⟨("Weaving", some "__init__"), "__init__", "Weaving.__init__", defArgs s_Weavingdd_initdd, defBody s_Weavingdd_initdd, defScope s_Weavingdd_initdd, [], []⟩
def dF_Weaving_add : He.DefD := ⟨("Weaving", some "add"), "add", "Weaving.add", defArgs s_Weaving_add, defBody s_Weaving_add, defScope s_Weaving_add, [], []⟩
def dF_Weavingdd_iterdd : He.DefD := ⟨("Weaving", some "__iter__"), "__iter__", "Weaving.__iter__", defArgs s_Weavingdd_iterdd, defBody s_Weavingdd_iterdd, defScope s_Weavingdd_iterdd, [], []⟩
def dF_Weavingdd_lendd : He.DefD := ⟨("Weaving", some "__len__"), "__len__", "Weaving.__len__", defArgs s_Weavingdd_lendd, defBody s_Weavingdd_lendd, defScope s_Weavingdd_lendd, [], []⟩
def dF_Weavingddascending : He.DefD := ⟨("Weaving", some "_ascending"), "_ascending", "Weaving._ascending", defArgs s_Weavingddascending, defBody s_Weavingddascending, defScope s_Weavingddascending, [], []⟩
def dF_Weaving_standing_of : He.DefD := ⟨("Weaving", some "standing_of"), "standing_of", "Weaving.standing_of", defArgs s_Weaving_standing_of, defBody s_Weaving_standing_of, defScope s_Weaving_standing_of, [], []⟩
def dF_Weaving_holders : He.DefD := ⟨("Weaving", some "holders"), "holders", "Weaving.holders", defArgs s_Weaving_holders, defBody s_Weaving_holders, defScope s_Weaving_holders, [], []⟩
def dF_Weaving_reads : He.DefD := ⟨("Weaving", some "reads"), "reads", "Weaving.reads", defArgs s_Weaving_reads, defBody s_Weaving_reads, defScope s_Weaving_reads, [], []⟩
def dF_Weaving_edges : He.DefD := ⟨("Weaving", some "edges"), "edges", "Weaving.edges", defArgs s_Weaving_edges, defBody s_Weaving_edges, defScope s_Weaving_edges, [], []⟩
def dF_part : He.DefD := ⟨("part", none), "part", "part", defArgs s_part, defBody s_part, defScope s_part, [], []⟩
def dF_followers : He.DefD := ⟨("followers", none), "followers", "followers", defArgs s_followers, defBody s_followers, defScope s_followers, [], []⟩
def dP_Weaving_names : PrD := ⟨"Weaving", "names", "Weaving.names", defArgs s_Weaving_names, defBody s_Weaving_names, defScope s_Weaving_names⟩
def fnL0 : List He.DefD := [dF__law_draws, dF__law_take, dF__law_marks, dF__law_rows, dF__law_way, dF__law_rules, dF__law_free_rules, dF__law_things, dF__law_number, dF__law_lets, dF__law_do, dF__law_open, dF__law_free, dF__law_events, dF__law_edges, dF__law_ascending, dF__law_shape, dF__law_web, dF__law_weaving, dF__law_reads, dF__law_followers, dF__law_part_good, dF__law_kept, dF__law_apart, dF__law_same, dF_law, dF_is_mark, dF_sound_row, dF_barren, dF_Shapedd_initdd]
def fnL1 : List He.DefD := [dF_Shapedd_getitemdd, dF_Shapedd_eqdd, dF_Shape_modes_of, dF_suitable, dF_Webdd_initdd, dF_Web_put, dF_Webdd_getitemdd, dF_Webdd_containsdd, dF_Webdd_eqdd, dF_Web_mark_of, dF_Standingdd_initdd, dF_Standing_check, dF_Standing_take, dF_Standing_held_mode, dF_Standing_copy, dF_Weavingdd_initdd, dF_Weaving_add, dF_Weavingdd_iterdd, dF_Weavingdd_lendd, dF_Weavingddascending, dF_Weaving_standing_of, dF_Weaving_holders, dF_Weaving_reads, dF_Weaving_edges, dF_part, dF_followers]
def fnL : List He.DefD := fnL0 ++ fnL1
def faL0 : List He.Fa := [.glo "_law_draws", .glo "_law_take", .glo "_law_marks", .glo "_law_rows", .glo "_law_way", .glo "_law_rules", .glo "_law_free_rules", .glo "_law_things", .glo "_law_number", .glo "_law_lets", .glo "_law_do", .glo "_law_open", .glo "_law_free", .glo "_law_events", .glo "_law_edges", .glo "_law_ascending", .glo "_law_shape", .glo "_law_web", .glo "_law_weaving", .glo "_law_reads", .glo "_law_followers", .glo "_law_part_good", .glo "_law_kept", .glo "_law_apart", .glo "_law_same", .glo "law", .glo "is_mark", .glo "sound_row", .glo "barren", .glo "Shape"]
def faL1 : List He.Fa := [.mkr "Shape", .meth "Shape" "__getitem__", .meth "Shape" "__eq__", .meth "Shape" "modes_of", .glo "suitable", .glo "Web", .mkr "Web", .meth "Web" "put", .meth "Web" "__getitem__", .meth "Web" "__contains__", .meth "Web" "__eq__", .meth "Web" "mark_of", .glo "Standing", .mkr "Standing", .meth "Standing" "check", .meth "Standing" "take", .meth "Standing" "held_mode", .meth "Standing" "copy", .glo "Weaving", .mkr "Weaving", .meth "Weaving" "add", .meth "Weaving" "__iter__", .meth "Weaving" "__len__", .meth "Weaving" "_ascending", .meth "Weaving" "standing_of", .meth "Weaving" "holders", .meth "Weaving" "reads", .meth "Weaving" "edges", .glo "part", .glo "followers"]
def faL2 : List He.Fa := [.cls "Shape", .noat "Shape" "_listed", .noat "Shape" "_marks", .cls "Web", .noat "Web" "shape", .noat "Web" "_rows", .noat "Web" "_numbers", .cls "Standing", .noat "Standing" "web", .noat "Standing" "_modes", .noat "Standing" "_holds", .noat "Standing" "_loose", .cls "Weaving", .noat "Weaving" "web", .noat "Weaving" "_events", .noat "Weaving" "_standings", .noat "Weaving" "_lockers", .noat "Weaving" "_edges", .free "bool", .free "len", .free "int", .free "tuple", .free "list", .free "sorted", .free "any", .free "min", .free "isinstance", .free "str", .free "range", .free "enumerate"]
def faL3 : List He.Fa := [.free "iter", .glo "DEEDS", .str "DIGITS" "0123456789", .str "LETTERS" "abcdefghijklmnopqrstuvwxyz", .glo "MODES"]
def faL : List He.Fa := faL0 ++ faL1 ++ faL2 ++ faL3
def xaL0 : List Xa := [.prop "Weaving" "names", .tup "DEEDS" ["own", "share", "drop"], .tup "MODES" ["own", "share"], .isc "Shape", .isc "Web", .cvi "Shape" "MARKS" 6, .cvi "Shape" "PARENTS" 4, .cvi "Web" "MOST" 1000]
def xaL : List Xa := xaL0
def prL0 : List PrD := [dP_Weaving_names]
def prL : List PrD := prL0
def looseL0 : List PySem.Str := [("_wall" : PySem.Str), ("__name__" : PySem.Str), ("WebError" : PySem.Str), ("BadShape" : PySem.Str), ("UnknownMark" : PySem.Str), ("BadParents" : PySem.Str), ("NoThing" : PySem.Str), ("BadStep" : PySem.Str), ("TooLarge" : PySem.Str), ("HasRing" : PySem.Str), ("BadText" : PySem.Str), ("Refused" : PySem.Str), ("LockedBefore" : PySem.Str), ("WrongMode" : PySem.Str), ("NotHeld" : PySem.Str), ("Clash" : PySem.Str), ("DEEDS" : PySem.Str), ("DIGITS" : PySem.Str), ("sound_step" : PySem.Str), ("number_of" : PySem.Str), ("Program" : PySem.Str), ("distances" : PySem.Str), ("ring_from" : PySem.Str), ("shortest_ring" : PySem.Str), ("forward_order" : PySem.Str), ("Standing" : PySem.Str), ("Weaving" : PySem.Str), ("part" : PySem.Str), ("followers" : PySem.Str), ("LETTERS" : PySem.Str)]
def looseL1 : List PySem.Str := [("MODES" : PySem.Str), ("is_mark" : PySem.Str), ("sound_row" : PySem.Str), ("barren" : PySem.Str), ("Shape" : PySem.Str), ("suitable" : PySem.Str), ("Web" : PySem.Str), ("_law_draws" : PySem.Str), ("_law_take" : PySem.Str), ("_law_same" : PySem.Str), ("_law_marks" : PySem.Str), ("_law_rows" : PySem.Str), ("_law_way" : PySem.Str), ("_law_rules" : PySem.Str), ("_law_free_rules" : PySem.Str), ("_law_things" : PySem.Str), ("_law_number" : PySem.Str), ("_law_lets" : PySem.Str), ("_law_do" : PySem.Str), ("_law_open" : PySem.Str), ("_law_free" : PySem.Str), ("_law_events" : PySem.Str), ("_law_edges" : PySem.Str), ("_law_ascending" : PySem.Str), ("_law_shape" : PySem.Str), ("_law_web" : PySem.Str), ("_law_weaving" : PySem.Str), ("_law_reads" : PySem.Str), ("_law_followers" : PySem.Str), ("_law_part_good" : PySem.Str)]
def looseL2 : List PySem.Str := [("_law_kept" : PySem.Str), ("_law_apart" : PySem.Str)]
def looseL : List PySem.Str := looseL0 ++ looseL1 ++ looseL2
abbrev RR : PySem.W.OpenRow := PySem.W.OpenLaw.row PySem.Challenge.rw_weblocks_k75_whole_parts_and_followers
abbrev hk : PySem.W.Hook := hookX 4 faL fnL xaL prL
def ob (s : PySem.W.SharedT) : AlX := obsXG 4 faL fnL xaL prL (HandSHeadRun.getT s)
theorem ob_eq (s : PySem.W.SharedT) : ob s = hk.obs s.abs := obsXG_eq (HandSHeadRun.getT_eq s)
set_option maxHeartbeats 0 in
theorem run (w : World) : HandSHeadRun.RunEq RR (PySem.W.view RR.prog [70]) hk ob 20000 looseL w := by
  intro os
  kernel_rfl
theorem txt_of {K : PySem.W.Frag} {h : Heap} {mg : Str → Option Value} (X : K.In h) (G : h.Ns mainGlobals mg) (c : SaysX faL fnL xaL prL K) : Txt K mg where
  f__law_draws := c.def_ 0 (d := dF__law_draws) rfl
  f__law_take := c.def_ 1 (d := dF__law_take) rfl
  f__law_marks := c.def_ 2 (d := dF__law_marks) rfl
  f__law_rows := c.def_ 3 (d := dF__law_rows) rfl
  f__law_way := c.def_ 4 (d := dF__law_way) rfl
  f__law_rules := c.def_ 5 (d := dF__law_rules) rfl
  f__law_free_rules := c.def_ 6 (d := dF__law_free_rules) rfl
  f__law_things := c.def_ 7 (d := dF__law_things) rfl
  f__law_number := c.def_ 8 (d := dF__law_number) rfl
  f__law_lets := c.def_ 9 (d := dF__law_lets) rfl
  f__law_do := c.def_ 10 (d := dF__law_do) rfl
  f__law_open := c.def_ 11 (d := dF__law_open) rfl
  f__law_free := c.def_ 12 (d := dF__law_free) rfl
  f__law_events := c.def_ 13 (d := dF__law_events) rfl
  f__law_edges := c.def_ 14 (d := dF__law_edges) rfl
  f__law_ascending := c.def_ 15 (d := dF__law_ascending) rfl
  f__law_shape := c.def_ 16 (d := dF__law_shape) rfl
  f__law_web := c.def_ 17 (d := dF__law_web) rfl
  f__law_weaving := c.def_ 18 (d := dF__law_weaving) rfl
  f__law_reads := c.def_ 19 (d := dF__law_reads) rfl
  f__law_followers := c.def_ 20 (d := dF__law_followers) rfl
  f__law_part_good := c.def_ 21 (d := dF__law_part_good) rfl
  f__law_kept := c.def_ 22 (d := dF__law_kept) rfl
  f__law_apart := c.def_ 23 (d := dF__law_apart) rfl
  f__law_same := c.def_ 24 (d := dF__law_same) rfl
  f_law := c.def_ 25 (d := dF_law) rfl
  f_is_mark := c.def_ 26 (d := dF_is_mark) rfl
  f_sound_row := c.def_ 27 (d := dF_sound_row) rfl
  f_barren := c.def_ 28 (d := dF_barren) rfl
  f_Shapedd_initdd := c.def_ 29 (d := dF_Shapedd_initdd) rfl
  f_Shapedd_getitemdd := c.def_ 30 (d := dF_Shapedd_getitemdd) rfl
  f_Shapedd_eqdd := c.def_ 31 (d := dF_Shapedd_eqdd) rfl
  f_Shape_modes_of := c.def_ 32 (d := dF_Shape_modes_of) rfl
  f_suitable := c.def_ 33 (d := dF_suitable) rfl
  f_Webdd_initdd := c.def_ 34 (d := dF_Webdd_initdd) rfl
  f_Web_put := c.def_ 35 (d := dF_Web_put) rfl
  f_Webdd_getitemdd := c.def_ 36 (d := dF_Webdd_getitemdd) rfl
  f_Webdd_containsdd := c.def_ 37 (d := dF_Webdd_containsdd) rfl
  f_Webdd_eqdd := c.def_ 38 (d := dF_Webdd_eqdd) rfl
  f_Web_mark_of := c.def_ 39 (d := dF_Web_mark_of) rfl
  f_Standingdd_initdd := c.def_ 40 (d := dF_Standingdd_initdd) rfl
  f_Standing_check := c.def_ 41 (d := dF_Standing_check) rfl
  f_Standing_take := c.def_ 42 (d := dF_Standing_take) rfl
  f_Standing_held_mode := c.def_ 43 (d := dF_Standing_held_mode) rfl
  f_Standing_copy := c.def_ 44 (d := dF_Standing_copy) rfl
  f_Weavingdd_initdd := c.def_ 45 (d := dF_Weavingdd_initdd) rfl
  f_Weaving_add := c.def_ 46 (d := dF_Weaving_add) rfl
  f_Weavingdd_iterdd := c.def_ 47 (d := dF_Weavingdd_iterdd) rfl
  f_Weavingdd_lendd := c.def_ 48 (d := dF_Weavingdd_lendd) rfl
  f_Weavingddascending := c.def_ 49 (d := dF_Weavingddascending) rfl
  f_Weaving_standing_of := c.def_ 50 (d := dF_Weaving_standing_of) rfl
  f_Weaving_holders := c.def_ 51 (d := dF_Weaving_holders) rfl
  f_Weaving_reads := c.def_ 52 (d := dF_Weaving_reads) rfl
  f_Weaving_edges := c.def_ 53 (d := dF_Weaving_edges) rfl
  f_part := c.def_ 54 (d := dF_part) rfl
  f_followers := c.def_ 55 (d := dF_followers) rfl
  g__law_draws := He.glo_ok X G (c.fact 0 (f := .glo "_law_draws") rfl)
  g__law_take := He.glo_ok X G (c.fact 1 (f := .glo "_law_take") rfl)
  g__law_marks := He.glo_ok X G (c.fact 2 (f := .glo "_law_marks") rfl)
  g__law_rows := He.glo_ok X G (c.fact 3 (f := .glo "_law_rows") rfl)
  g__law_way := He.glo_ok X G (c.fact 4 (f := .glo "_law_way") rfl)
  g__law_rules := He.glo_ok X G (c.fact 5 (f := .glo "_law_rules") rfl)
  g__law_free_rules := He.glo_ok X G (c.fact 6 (f := .glo "_law_free_rules") rfl)
  g__law_things := He.glo_ok X G (c.fact 7 (f := .glo "_law_things") rfl)
  g__law_number := He.glo_ok X G (c.fact 8 (f := .glo "_law_number") rfl)
  g__law_lets := He.glo_ok X G (c.fact 9 (f := .glo "_law_lets") rfl)
  g__law_do := He.glo_ok X G (c.fact 10 (f := .glo "_law_do") rfl)
  g__law_open := He.glo_ok X G (c.fact 11 (f := .glo "_law_open") rfl)
  g__law_free := He.glo_ok X G (c.fact 12 (f := .glo "_law_free") rfl)
  g__law_events := He.glo_ok X G (c.fact 13 (f := .glo "_law_events") rfl)
  g__law_edges := He.glo_ok X G (c.fact 14 (f := .glo "_law_edges") rfl)
  g__law_ascending := He.glo_ok X G (c.fact 15 (f := .glo "_law_ascending") rfl)
  g__law_shape := He.glo_ok X G (c.fact 16 (f := .glo "_law_shape") rfl)
  g__law_web := He.glo_ok X G (c.fact 17 (f := .glo "_law_web") rfl)
  g__law_weaving := He.glo_ok X G (c.fact 18 (f := .glo "_law_weaving") rfl)
  g__law_reads := He.glo_ok X G (c.fact 19 (f := .glo "_law_reads") rfl)
  g__law_followers := He.glo_ok X G (c.fact 20 (f := .glo "_law_followers") rfl)
  g__law_part_good := He.glo_ok X G (c.fact 21 (f := .glo "_law_part_good") rfl)
  g__law_kept := He.glo_ok X G (c.fact 22 (f := .glo "_law_kept") rfl)
  g__law_apart := He.glo_ok X G (c.fact 23 (f := .glo "_law_apart") rfl)
  g__law_same := He.glo_ok X G (c.fact 24 (f := .glo "_law_same") rfl)
  g_law := He.glo_ok X G (c.fact 25 (f := .glo "law") rfl)
  g_is_mark := He.glo_ok X G (c.fact 26 (f := .glo "is_mark") rfl)
  g_sound_row := He.glo_ok X G (c.fact 27 (f := .glo "sound_row") rfl)
  g_barren := He.glo_ok X G (c.fact 28 (f := .glo "barren") rfl)
  g_Shapedd_initdd := He.glo_ok X G (c.fact 29 (f := .glo "Shape") rfl)
  mk_Shape := He.mkr_ok (c.fact 30 (f := .mkr "Shape") rfl)
  m_Shapedd_getitemdd := He.meth_ok (c.fact 31 (f := .meth "Shape" "__getitem__") rfl)
  m_Shapedd_eqdd := He.meth_ok (c.fact 32 (f := .meth "Shape" "__eq__") rfl)
  m_Shape_modes_of := He.meth_ok (c.fact 33 (f := .meth "Shape" "modes_of") rfl)
  g_suitable := He.glo_ok X G (c.fact 34 (f := .glo "suitable") rfl)
  g_Webdd_initdd := He.glo_ok X G (c.fact 35 (f := .glo "Web") rfl)
  mk_Web := He.mkr_ok (c.fact 36 (f := .mkr "Web") rfl)
  m_Web_put := He.meth_ok (c.fact 37 (f := .meth "Web" "put") rfl)
  m_Webdd_getitemdd := He.meth_ok (c.fact 38 (f := .meth "Web" "__getitem__") rfl)
  m_Webdd_containsdd := He.meth_ok (c.fact 39 (f := .meth "Web" "__contains__") rfl)
  m_Webdd_eqdd := He.meth_ok (c.fact 40 (f := .meth "Web" "__eq__") rfl)
  m_Web_mark_of := He.meth_ok (c.fact 41 (f := .meth "Web" "mark_of") rfl)
  g_Standingdd_initdd := He.glo_ok X G (c.fact 42 (f := .glo "Standing") rfl)
  mk_Standing := He.mkr_ok (c.fact 43 (f := .mkr "Standing") rfl)
  m_Standing_check := He.meth_ok (c.fact 44 (f := .meth "Standing" "check") rfl)
  m_Standing_take := He.meth_ok (c.fact 45 (f := .meth "Standing" "take") rfl)
  m_Standing_held_mode := He.meth_ok (c.fact 46 (f := .meth "Standing" "held_mode") rfl)
  m_Standing_copy := He.meth_ok (c.fact 47 (f := .meth "Standing" "copy") rfl)
  g_Weavingdd_initdd := He.glo_ok X G (c.fact 48 (f := .glo "Weaving") rfl)
  mk_Weaving := He.mkr_ok (c.fact 49 (f := .mkr "Weaving") rfl)
  m_Weaving_add := He.meth_ok (c.fact 50 (f := .meth "Weaving" "add") rfl)
  m_Weavingdd_iterdd := He.meth_ok (c.fact 51 (f := .meth "Weaving" "__iter__") rfl)
  m_Weavingdd_lendd := He.meth_ok (c.fact 52 (f := .meth "Weaving" "__len__") rfl)
  m_Weavingddascending := He.meth_ok (c.fact 53 (f := .meth "Weaving" "_ascending") rfl)
  m_Weaving_standing_of := He.meth_ok (c.fact 54 (f := .meth "Weaving" "standing_of") rfl)
  m_Weaving_holders := He.meth_ok (c.fact 55 (f := .meth "Weaving" "holders") rfl)
  m_Weaving_reads := He.meth_ok (c.fact 56 (f := .meth "Weaving" "reads") rfl)
  p_Weaving_names := ⟨_, _, prop_ok (c.xfact 0 (f := .prop "Weaving" "names") rfl), c.prd 0 (d := dP_Weaving_names) rfl⟩
  m_Weaving_edges := He.meth_ok (c.fact 57 (f := .meth "Weaving" "edges") rfl)
  g_part := He.glo_ok X G (c.fact 58 (f := .glo "part") rfl)
  g_followers := He.glo_ok X G (c.fact 59 (f := .glo "followers") rfl)
  c_Shape := He.cls_ok (c.fact 60 (f := .cls "Shape") rfl)
  n_Shape__listed := He.noat_ok (c.fact 61 (f := .noat "Shape" "_listed") rfl)
  n_Shape__marks := He.noat_ok (c.fact 62 (f := .noat "Shape" "_marks") rfl)
  c_Web := He.cls_ok (c.fact 63 (f := .cls "Web") rfl)
  n_Web_shape := He.noat_ok (c.fact 64 (f := .noat "Web" "shape") rfl)
  n_Web__rows := He.noat_ok (c.fact 65 (f := .noat "Web" "_rows") rfl)
  n_Web__numbers := He.noat_ok (c.fact 66 (f := .noat "Web" "_numbers") rfl)
  c_Standing := He.cls_ok (c.fact 67 (f := .cls "Standing") rfl)
  n_Standing_web := He.noat_ok (c.fact 68 (f := .noat "Standing" "web") rfl)
  n_Standing__modes := He.noat_ok (c.fact 69 (f := .noat "Standing" "_modes") rfl)
  n_Standing__holds := He.noat_ok (c.fact 70 (f := .noat "Standing" "_holds") rfl)
  n_Standing__loose := He.noat_ok (c.fact 71 (f := .noat "Standing" "_loose") rfl)
  c_Weaving := He.cls_ok (c.fact 72 (f := .cls "Weaving") rfl)
  n_Weaving_web := He.noat_ok (c.fact 73 (f := .noat "Weaving" "web") rfl)
  n_Weaving__events := He.noat_ok (c.fact 74 (f := .noat "Weaving" "_events") rfl)
  n_Weaving__standings := He.noat_ok (c.fact 75 (f := .noat "Weaving" "_standings") rfl)
  n_Weaving__lockers := He.noat_ok (c.fact 76 (f := .noat "Weaving" "_lockers") rfl)
  n_Weaving__edges := He.noat_ok (c.fact 77 (f := .noat "Weaving" "_edges") rfl)
  z_bool := He.free_ok X G (c.fact 78 (f := .free "bool") rfl)
  z_len := He.free_ok X G (c.fact 79 (f := .free "len") rfl)
  z_int := He.free_ok X G (c.fact 80 (f := .free "int") rfl)
  z_tuple := He.free_ok X G (c.fact 81 (f := .free "tuple") rfl)
  z_list := He.free_ok X G (c.fact 82 (f := .free "list") rfl)
  z_sorted := He.free_ok X G (c.fact 83 (f := .free "sorted") rfl)
  z_any := He.free_ok X G (c.fact 84 (f := .free "any") rfl)
  z_min := He.free_ok X G (c.fact 85 (f := .free "min") rfl)
  z_isinstance := He.free_ok X G (c.fact 86 (f := .free "isinstance") rfl)
  z_str := He.free_ok X G (c.fact 87 (f := .free "str") rfl)
  z_range := He.free_ok X G (c.fact 88 (f := .free "range") rfl)
  z_enumerate := He.free_ok X G (c.fact 89 (f := .free "enumerate") rfl)
  z_iter := He.free_ok X G (c.fact 90 (f := .free "iter") rfl)
  k_DEEDS := ⟨_, He.glo_ok X G (c.fact 91 (f := .glo "DEEDS") rfl), rfl⟩
  i_DEEDS := tup_ok (c.xfact 1 (f := .tup "DEEDS" ["own", "share", "drop"]) rfl)
  k_DIGITS := (let ⟨t, h⟩ := He.str_ok X G (c.fact 92 (f := .str "DIGITS" "0123456789") rfl); ⟨_, h, t, rfl⟩)
  k_LETTERS := (let ⟨t, h⟩ := He.str_ok X G (c.fact 93 (f := .str "LETTERS" "abcdefghijklmnopqrstuvwxyz") rfl); ⟨_, h, t, rfl⟩)
  k_MODES := ⟨_, He.glo_ok X G (c.fact 94 (f := .glo "MODES") rfl), rfl⟩
  i_MODES := tup_ok (c.xfact 2 (f := .tup "MODES" ["own", "share"]) rfl)
  i_Shape := isc_ok (c.xfact 3 (f := .isc "Shape") rfl)
  i_Web := isc_ok (c.xfact 4 (f := .isc "Web") rfl)
  v_Shape_MARKS := cvi_ok (c.xfact 5 (f := .cvi "Shape" "MARKS" 6) rfl)
  v_Shape_PARENTS := cvi_ok (c.xfact 6 (f := .cvi "Shape" "PARENTS" 4) rfl)
  v_Web_MOST := cvi_ok (c.xfact 7 (f := .cvi "Web" "MOST" 1000) rfl)
end W
namespace W
open PySem PySem.Spec PyProof.Rows L2 C8 G
/-! the steps: «walk_at "g"» goes on as far as it can; «walk_at "g1"» one step; «walk_at "side"» side goals -/
local macro_rules | `(tactic| walk_at "side") => `(tactic| first
  | assumption | rfl | decide | omega | (show CMul _ _; first | exact .inr (by decide) | exact .inl (by decide) | exact .inl (by omega) | exact .inr (by omega)) | exact ⟨by decide, by decide, by decide⟩
  | (simp only [List.length_map, List.length_cons, List.length_nil, List.length_append] at *; omega)
  | (constructor <;> first | assumption | omega | (simp only [List.length_map, List.length_cons, List.length_nil, List.length_append] at *; omega)))
local macro_rules | `(tactic| walk_at "st0") => `(tactic| first
  | with_reducible apply n_var
  | with_reducible apply k_gl
  | with_reducible apply k_cv
  | with_reducible apply k_op
  | with_reducible apply k_arg
  | with_reducible apply k_a1
  | with_reducible apply k_a2
  | with_reducible apply k_a0
  | with_reducible apply k_cb
  | with_reducible apply k_ak0
  | with_reducible apply k_seq
  | with_reducible apply k_asg
  | with_reducible apply n_set
  | with_reducible apply k_rtD
  | with_reducible apply k_next
  | with_reducible apply k_ret
  | with_reducible apply k_retN
  | with_reducible apply k_drop
  | with_reducible apply k_pop
  | with_reducible apply k_if
  | with_reducible apply k_ifT
  | with_reducible apply k_ifF
  | with_reducible apply k_andT
  | with_reducible apply k_andF
  | with_reducible apply k_orT
  | with_reducible apply k_orF
  | with_reducible apply k_ttest
  | with_reducible apply k_tB
  | with_reducible apply k_tb
  | with_reducible apply k_bm
  | with_reducible apply k_bm0
  | with_reducible apply k_bmL
  | with_reducible apply k_fld0
  | with_reducible apply k_un
  | with_reducible apply k_tsub
  | with_reducible apply k_tgn
  | with_reducible apply k_gsub
  | with_reducible apply k_lst0
  | with_reducible apply k_tup0
  | with_reducible apply k_call
  | with_reducible apply k_meth0
  | with_reducible apply k_make0
  | with_reducible apply k_sfld0
  | with_reducible apply k_dget0
  | with_reducible apply k_dget20
  | with_reducible apply k_dget2
  | with_reducible apply k_dput0
  | with_reducible apply k_ddel0
  | with_reducible apply k_and
  | with_reducible apply k_or
  | with_reducible apply k_not
  | with_reducible apply k_andV0
  | with_reducible apply k_orV0
  | with_reducible apply k_notV0
  | with_reducible apply k_notV
  | with_reducible apply k_a3
  | with_reducible apply k_a4
  | with_reducible apply k_a5
  | with_reducible apply k_a6
  | with_reducible apply k_rtL
  | with_reducible apply k_bkL
  | with_reducible apply k_bkD
  | with_reducible apply k_ctD
  | with_reducible apply k_brk
  | with_reducible apply k_cont
  | with_reducible apply k_for
  | with_reducible apply k_forT
  | with_reducible apply k_forR
  | with_reducible apply k_forR2
  | with_reducible apply k_lcL0
  | with_reducible apply k_lcT0
  | with_reducible apply k_lcR0
  | with_reducible apply k_lcR30
  | with_reducible apply k_chain0
  | with_reducible apply k_ltK
  | with_reducible apply k_leK
  | with_reducible apply k_sl0
  | with_reducible apply k_slNN
  | with_reducible apply k_slNS
  | with_reducible apply k_slSN
  | with_reducible apply k_slSS
  | with_reducible apply k_popI
  | with_reducible apply k_aug
  | with_reducible apply k_augk
  | with_reducible apply k_yes
  | with_reducible apply k_forS
  | with_reducible apply k_forE
  | with_reducible apply k_forI
  | with_reducible apply k_prop0
  | with_reducible apply k_listG0
  | with_reducible apply k_cval0
  | with_reducible apply k_chain30
  | with_reducible apply k_ch3T
  | with_reducible apply k_chT
  | with_reducible apply g_then
  | with_reducible apply g_nxD
  | with_reducible apply g_0
  | with_reducible apply g_plain
  | with_reducible apply g_at
  | with_reducible apply g_if
  | with_reducible apply g_tgn
  | with_reducible apply g_for)
local macro_rules | `(tactic| walk_at "st") => `(tactic| first | walk_at "st0" | with_reducible apply k_nxD)
local macro_rules | `(tactic| walk_at "op") => `(tactic| first
  | with_reducible apply k_plusI
  | with_reducible apply k_sub
  | with_reducible apply k_lt
  | with_reducible apply k_le2
  | with_reducible apply k_gt
  | with_reducible apply k_ge
  | with_reducible apply k_eqI
  | with_reducible apply k_neI
  | with_reducible apply k_eqS
  | with_reducible apply k_neS
  | with_reducible apply k_eqB
  | with_reducible apply k_neB
  | with_reducible apply k_neg
  | with_reducible apply k_int
  | with_reducible apply k_lenM
  | with_reducible apply k_lenMT
  | with_reducible apply k_lenL
  | with_reducible apply k_lenT
  | ((with_reducible refine k_mul ?g1 ?g2); case g1 => walk_at "side")
  | ((with_reducible refine k_pow ?g1 ?g2); case g1 => walk_at "side")
  | ((with_reducible refine k_mod ?g1 ?g2); case g1 => walk_at "side")
  | ((with_reducible refine k_div ?g1 ?g2); case g1 => walk_at "side")
  | (refine k_ixL (by rfl) ?_)
  | (refine k_ixT (by rfl) ?_)
  | (refine k_ixLm ?g1 ?g2; case g1 => walk_at "side")
  | (refine k_ixTm ?g1 ?g2; case g1 => walk_at "side")
  | ((with_reducible refine k_lstE ?_); intro)
  | ((with_reducible refine k_lstB ?g1 ?g2); case g1 => walk_at "side")
  | ((with_reducible refine k_tupB ?g1 ?g2); case g1 => walk_at "side")
  | ((with_reducible refine k_appendM ?g1 ?g2); case g1 => walk_at "side")
  | ((with_reducible refine k_append ?g1 ?g2); case g1 => walk_at "side")
  | ((with_reducible refine k_setLm ?g1 ?g2); case g1 => walk_at "side")
  | ((with_reducible refine k_setL ?g1 ?g2); case g1 => walk_at "side")
  | ((with_reducible refine k_plusS ?g1 ?g2); case g1 => walk_at "side")
  | ((with_reducible refine k_plusL ?g1 ?g2); case g1 => walk_at "side")
  | ((with_reducible refine k_lenS ?g1 ?g2); case g1 => walk_at "side")
  | (refine k_fldI (by rfl) ?_)
  | with_reducible apply k_cval
  | with_reducible apply k_isC
  | with_reducible apply k_isi1
  | with_reducible apply k_isi2
  | with_reducible apply k_isNotN
  | with_reducible apply k_isN
  | with_reducible apply k_dIn
  | with_reducible apply k_dNotIn
  | with_reducible apply k_tIn
  | ((with_reducible refine k_unpack ?g1 ?g2 ?g3); (case g1 => rfl); case g2 => rfl)
  | with_reducible apply k_tupleL
  | with_reducible apply k_tupleT
  | with_reducible apply k_listB
  | with_reducible apply k_listD
  | with_reducible apply k_listT
  | with_reducible apply k_slLm
  | with_reducible apply k_slL
  | ((with_reducible refine k_slS ?g1 ?g2); case g1 => walk_at "side")
  | with_reducible apply k_any
  | with_reducible apply k_inLS
  | with_reducible apply k_notInLS
  | with_reducible apply k_inLI
  | with_reducible apply k_notInLI
  | with_reducible apply k_inT2
  | with_reducible apply k_inL2
  | with_reducible apply k_notInL2
  | with_reducible apply k_inTS
  | with_reducible apply k_notInTS
  | with_reducible apply k_inTI
  | with_reducible apply k_notInTI
  | ((with_reducible refine k_dnewK ?_); intro)
  | ((with_reducible refine k_dnewT ?_); intro)
  | ((with_reducible refine k_dput ?g1 ?g2); case g1 => walk_at "side")
  | ((with_reducible refine k_tput ?g1 ?g2); case g1 => walk_at "side")
  | with_reducible apply k_inCh
  | with_reducible apply k_notInCh)
local macro_rules | `(tactic| walk_at "if") => `(tactic| first
  | (with_reducible refine k_ifD ?_ ?_ <;> intro)
  | (with_reducible refine k_ifN ?_ ?_ <;> intro)
  | (with_reducible refine k_ifNB ?_ ?_ <;> intro)
  | (with_reducible refine k_if2 ?_ ?_ <;> intro)
  | (with_reducible refine k_and2 ?_ ?_ <;> intro)
  | (with_reducible refine k_or2 ?_ ?_ <;> intro))
local macro_rules | `(tactic| walk_at "le") => `(tactic| repeat first | exact Le.nil | with_reducible apply Le.keep | with_reducible apply Le.drop | ((with_reducible refine Le.eq ?g1 ?g2); case g1 => first | rfl | (congr 1 <;> walk_at "side")))
local macro_rules | `(tactic| walk_at "turn") => `(tactic| first
  | (refine k_turn (by assumption) _ ?l rfl ?j; case' l => walk_at "le")
  | (refine k_turnC (by assumption) _ ?l rfl ?j; case' l => walk_at "le")
  | (refine k_turnW (by assumption) _ ?l rfl ?j; case' l => walk_at "le"))
local macro_rules | `(tactic| walk_at "fin") => `(tactic| first
  | (refine k_fin (by assumption) _ ?_ (fun _ h => h))
  | (refine k_finN (by assumption) _ ?_ (fun _ h => h)))
local macro_rules | `(tactic| walk_at "g1") => `(tactic| first | walk_at "st" | walk_at "op" | walk_at "if")
local macro_rules | `(tactic| walk_at "g") => `(tactic| repeat' walk_at "g1")
local macro_rules | `(tactic| walk_at "g0") => `(tactic| repeat' first | walk_at "st" | walk_at "op")
local macro_rules | `(tactic| walk_at "gb") => `(tactic| repeat' first | walk_at "st0" | walk_at "op" | walk_at "if")
local macro_rules | `(tactic| walk_at "cm") => `(tactic| conv => arg 2; dsimp only [wipeS, List.set, List.map])
local macro_rules | `(tactic| walk_at "gB") => `(tactic| repeat' first | walk_at "st" | walk_at "op" | refine k_ifT ?_ | refine k_ifF ?_ | refine k_andT ?_ | refine k_andF ?_ | refine k_orT ?_ | refine k_orF ?_)

/-! _law_draws -/
def ct__law_draws (K : PySem.W.Frag) : Ct where
  δ := List Int
  ε := List Int
  ok d := d.length ≤ 63
  pre d := [rLk K (d.map rI)]
  own _ := []
  post _ e := e.length ≤ 10000
  ret _ e := rLs (e.map G.rI)
  out _ _ := []
section
variable {P : Program} {w : World} {K : PySem.W.Frag} {mg : Str → Option Value} {base : Heap}
set_option maxHeartbeats 4000000 in
theorem ok__law_draws (T : Txt K mg)  : Cal P w K mg base 1 "_law_draws" (Fn (ct__law_draws K)) [] := by
  haveI : FldI K (He.ga K "Shape") "_listed" := ⟨T.c_Shape, T.n_Shape__listed⟩
  haveI : FldI K (He.ga K "Shape") "_marks" := ⟨T.c_Shape, T.n_Shape__marks⟩
  haveI : FldI K (He.ga K "Web") "shape" := ⟨T.c_Web, T.n_Web_shape⟩
  haveI : FldI K (He.ga K "Web") "_rows" := ⟨T.c_Web, T.n_Web__rows⟩
  haveI : FldI K (He.ga K "Web") "_numbers" := ⟨T.c_Web, T.n_Web__numbers⟩
  haveI : FldI K (He.ga K "Standing") "web" := ⟨T.c_Standing, T.n_Standing_web⟩
  haveI : FldI K (He.ga K "Standing") "_modes" := ⟨T.c_Standing, T.n_Standing__modes⟩
  haveI : FldI K (He.ga K "Standing") "_holds" := ⟨T.c_Standing, T.n_Standing__holds⟩
  haveI : FldI K (He.ga K "Standing") "_loose" := ⟨T.c_Standing, T.n_Standing__loose⟩
  haveI : FldI K (He.ga K "Weaving") "web" := ⟨T.c_Weaving, T.n_Weaving_web⟩
  haveI : FldI K (He.ga K "Weaving") "_events" := ⟨T.c_Weaving, T.n_Weaving__events⟩
  haveI : FldI K (He.ga K "Weaving") "_standings" := ⟨T.c_Weaving, T.n_Weaving__standings⟩
  haveI : FldI K (He.ga K "Weaving") "_lockers" := ⟨T.c_Weaving, T.n_Weaving__lockers⟩
  haveI : FldI K (He.ga K "Weaving") "_edges" := ⟨T.c_Weaving, T.n_Weaving__edges⟩
  haveI := T.v_Shape_MARKS
  haveI := T.v_Shape_PARENTS
  haveI := T.v_Web_MOST
  haveI := T.i_DEEDS
  haveI := T.i_MODES
  refine calD T.f__law_draws T.g__law_draws sc__law_draws (fun _ _ _ _ _ _ us hl => match us, hl with | [_], _ => rfl) (fun _ => rfl) (fun cdv A outer s H E hr => ?_)
  have hu := hu_of hr
  have hu64 := hu64_of hr
  have hu65 := hu65_of hr
  refine ⟨_, (pss_cons (ps_set (i := 1) sc__law_draws.nd rfl (by first | exact Or.inl rfl | exact Or.inr rfl) (pe_lst pa_nil))
    (pss_cons (ps_for PassesOwn.never rfl (piL K (pv 0)) (pg_name (i := 2) sc__law_draws.nd rfl (by first | exact Or.inl rfl | exact Or.inr rfl))
    (pss_one (ps_if (pt_cmpR op_ge (pv 2) (pe_op op_pow pe_int pe_int) (nomark _)) (pss_cons (ps_set (i := 3) sc__law_draws.nd rfl (by first | exact Or.inl rfl | exact Or.inr rfl) (pe_callTy c_int (by rfl) T.z_int (by decide +kernel) (pa_cons (pv 2) pa_nil)))
    (pss_one (ps_for PassesOwn.never rfl (pi_range1 (by rfl) T.z_range (pa_cons pe_int pa_nil)) (pg_name (i := 4) sc__law_draws.nd rfl (by first | exact Or.inl rfl | exact Or.inr rfl))
    (pss_one (ps_if (pt_cmpR op_gt (pv 3) pe_int (nomark _)) (pss_cons (ps_expr (pe_bm PySem.F.plainAttrs_list PySem.F.slot_list_append PySem.F.type_list_append mt_append (pv 1) (pa_cons (pe_op op_mod (pe_callTy c_int (by rfl) T.z_int (by decide +kernel) (pa_cons (pv 3) pa_nil)) pe_int) pa_nil)))
    (pss_one (ps_set (i := 3) sc__law_draws.nd rfl (by first | exact Or.inl rfl | exact Or.inr rfl) (pe_op op_fdiv (pv 3) pe_int)))) pss_nil))))) (pss_cons (ps_set (i := 5) sc__law_draws.nd rfl (by first | exact Or.inl rfl | exact Or.inr rfl) (pe_op op_mod (pe_callTy c_int (by rfl) T.z_int (by decide +kernel) (pa_cons (pe_op op_plus (pe_op op_mul (pv 2) pe_int) pe_int) pa_nil)) pe_int))
    (pss_cons (ps_expr (pe_bm PySem.F.plainAttrs_list PySem.F.slot_list_append PySem.F.type_list_append mt_append (pv 1) (pa_cons (pv 5) pa_nil)))
    (pss_one (ps_expr (pe_bm PySem.F.plainAttrs_list PySem.F.slot_list_append PySem.F.type_list_append mt_append (pv 1) (pa_cons (pe_op op_mod (pe_callTy c_int (by rfl) T.z_int (by decide +kernel) (pa_cons (pe_op op_plus (pe_op op_plus (pe_op op_mul (pv 5) (pv 5)) (pe_op op_mul pe_int (pv 5))) (pe_op op_mul pe_int (pe_callB (lenU K) (by rfl) T.z_len PySem.boot_len (pa_cons (pv 1) pa_nil)))) pa_nil)) pe_int) pa_nil)))))))))
    (pss_one (ps_ret (pv 1))))), ?_⟩
  rintro (ns : List Int) L g fr Q (h1 : ns.length ≤ 63) hR
  show Gk L [some (rLk K (ns.map G.rI)), none, none, none, none, none] [g] fr _
  walk_at "g"
  rename_i p
  refine k_forL (T := List Int) (fun i ds => ds.length ≤ 60 * i) (fun _ => [some (rLk K (ns.map G.rI)), some (rA p), none, none, none, none]) (fun ds => oLs p (ds.map G.rI) :: fr) [] (Nat.zero_le _) (by walk_at "le") rfl ?_ ?_
  · intro i q gh ds N hq hJ hN
    obtain ⟨n, hn, rfl⟩ := map_get hq
    have hi := (List.getElem?_eq_some_iff.mp hn).1
    walk_at "g"
    · refine k_forRn (T := Int × List Int) (fun k s => s.2.length ≤ 60 * i + k) (fun s => [some (rLk K (ns.map G.rI)), some (rA p), some (G.rI n), some (G.rI s.1), none, none]) (fun s => oLs p (s.2.map G.rI) :: fr) (n, ds) ?z hJ (by walk_at "le") rfl ?_ ?_
      case z => decide
      · rintro k ⟨r, es⟩ N2 hk hJ2 hN2
        dsimp only at hJ2 hN2 ⊢
        have hk : k < 60 := hk
        walk_at "g"
        · refine k_le (by walk_at "le") rfl (hN2 (r / 1000, es ++ [r % 1000]) ?_)
          show (es ++ [r % 1000]).length ≤ _; rw [List.length_append, List.length_singleton]; omega
        · refine k_le (by walk_at "le") rfl (hN2 (r, es) ?_)
          show es.length ≤ _; omega
      · rintro ⟨r, es⟩ (hJ2 : es.length ≤ 60 * i + 60)
        dsimp only
        refine k_le (by walk_at "le") rfl (hN es ?_)
        show es.length ≤ _; omega
    · refine k_le (by walk_at "le") rfl (hN _ ?_)
      rw [List.length_append, List.length_append, List.length_singleton, List.length_singleton]; omega
  · intro ds (hJ : ds.length ≤ 60 * (ns.map G.rI).length)
    have hJ : ds.length ≤ 60 * ns.length := by rw [List.length_map] at hJ; exact hJ
    walk_at "g"
    refine n_frzT ?_
    refine k_fin hR ds ?_ (fun _ h => h)
    show ds.length ≤ 10000
    omega

end


/-! _law_take -/
def ct__law_take : Ct where
  δ := List Int × Addr × Int × Int
  ε := Int
  ok d := 0 < d.2.2.2 ∧ 0 ≤ d.2.2.1 ∧ d.1.length ≤ 10000
  pre d := [rLs (d.1.map rI), rA d.2.1, rI d.2.2.2]
  own d := [oLs d.2.1 [rI d.2.2.1]]
  post d e := 0 ≤ e ∧ e < d.2.2.2
  ret d e := rI e
  out d e := [oLs d.2.1 [rI (d.2.2.1 + 1)]]
section
variable {P : Program} {w : World} {K : PySem.W.Frag} {mg : Str → Option Value} {base : Heap}
set_option maxHeartbeats 4000000 in
theorem ok__law_take (T : Txt K mg)  : Cal P w K mg base 1 "_law_take" (Fn ct__law_take) [] := by
  haveI : FldI K (He.ga K "Shape") "_listed" := ⟨T.c_Shape, T.n_Shape__listed⟩
  haveI : FldI K (He.ga K "Shape") "_marks" := ⟨T.c_Shape, T.n_Shape__marks⟩
  haveI : FldI K (He.ga K "Web") "shape" := ⟨T.c_Web, T.n_Web_shape⟩
  haveI : FldI K (He.ga K "Web") "_rows" := ⟨T.c_Web, T.n_Web__rows⟩
  haveI : FldI K (He.ga K "Web") "_numbers" := ⟨T.c_Web, T.n_Web__numbers⟩
  haveI : FldI K (He.ga K "Standing") "web" := ⟨T.c_Standing, T.n_Standing_web⟩
  haveI : FldI K (He.ga K "Standing") "_modes" := ⟨T.c_Standing, T.n_Standing__modes⟩
  haveI : FldI K (He.ga K "Standing") "_holds" := ⟨T.c_Standing, T.n_Standing__holds⟩
  haveI : FldI K (He.ga K "Standing") "_loose" := ⟨T.c_Standing, T.n_Standing__loose⟩
  haveI : FldI K (He.ga K "Weaving") "web" := ⟨T.c_Weaving, T.n_Weaving_web⟩
  haveI : FldI K (He.ga K "Weaving") "_events" := ⟨T.c_Weaving, T.n_Weaving__events⟩
  haveI : FldI K (He.ga K "Weaving") "_standings" := ⟨T.c_Weaving, T.n_Weaving__standings⟩
  haveI : FldI K (He.ga K "Weaving") "_lockers" := ⟨T.c_Weaving, T.n_Weaving__lockers⟩
  haveI : FldI K (He.ga K "Weaving") "_edges" := ⟨T.c_Weaving, T.n_Weaving__edges⟩
  haveI := T.v_Shape_MARKS
  haveI := T.v_Shape_PARENTS
  haveI := T.v_Web_MOST
  haveI := T.i_DEEDS
  haveI := T.i_MODES
  refine calD T.f__law_take T.g__law_take sc__law_take (fun _ _ _ _ _ _ us hl => match us, hl with | [_, _, _], _ => rfl) (fun _ => rfl) (fun cdv A outer s H E hr => ?_)
  have hu := hu_of hr
  have hu64 := hu64_of hr
  have hu65 := hu65_of hr
  refine ⟨_, (pss_cons (ps_asg (pe_op op_plus (pe_ix (ixU K) (pv 1) pe_int (fun _ _ => rfl)) pe_int) (pg_sub (pv 1) pe_int set_list))
    (pss_cons (ps_if (pt_cmpR op_gt (pe_ix (ixU K) (pv 1) pe_int (fun _ _ => rfl)) (pe_callB (lenU K) (by rfl) T.z_len PySem.boot_len (pa_cons (pv 0) pa_nil)) (nomark _)) (pss_one (ps_ret pe_int)) pss_nil)
    (pss_one (ps_ret (pe_op op_mod (pe_callTy c_int (by rfl) T.z_int (by decide +kernel) (pa_cons (pe_ix (ixU K) (pv 0) (pe_op op_sub (pe_ix (ixU K) (pv 1) pe_int (fun _ _ => rfl)) pe_int) (fun _ _ => rfl)) pa_nil)) (pv 2)))))), ?_⟩
  rintro ⟨ds, a, k, n⟩ L g fr Q ⟨h1, h2, h3⟩ hR
  dsimp only at h1 h2 h3
  show Gk L [some (rLs (ds.map rI)), some (rA a), some (rI n)] [g] (oLs a [rI k] :: fr) _
  walk_at "g"
  all_goals walk_at "fin"
  · exact ⟨Int.le_refl _, h1⟩
  · exact ⟨Int.emod_nonneg _ (by omega), Int.emod_lt_of_pos _ h1⟩

end


/-! _law_marks -/
def ct__law_marks : Ct where
  δ := List Int × Addr × Int × Int
  ε := List Str × Int
  ok d := 0 ≤ d.2.2.1 ∧ d.1.length ≤ 10000 ∧ 0 ≤ d.2.2.2 ∧ d.2.2.2 ≤ 6
  pre d := [rLs (d.1.map G.rI), rA d.2.1, G.rI d.2.2.2]
  own d := [oLs d.2.1 [G.rI d.2.2.1]]
  post d e := (e.1.length = d.2.2.2 ∧ (∀ m ∈ e.1, isMk m) ∧ e.1.Nodup) ∧ 0 ≤ e.2
  ret d e := rLs (e.1.map rS)
  out d e := [oLs d.2.1 [G.rI e.2]]
section
variable {P : Program} {w : World} {K : PySem.W.Frag} {mg : Str → Option Value} {base : Heap}
set_option maxHeartbeats 4000000 in
theorem ok__law_marks (T : Txt K mg) (C__law_take : Cal P w K mg base 1 "_law_take" (Fn ct__law_take) []) : Cal P w K mg base 2 "_law_marks" (Fn ct__law_marks) [] := by
  haveI : FldI K (He.ga K "Shape") "_listed" := ⟨T.c_Shape, T.n_Shape__listed⟩
  haveI : FldI K (He.ga K "Shape") "_marks" := ⟨T.c_Shape, T.n_Shape__marks⟩
  haveI : FldI K (He.ga K "Web") "shape" := ⟨T.c_Web, T.n_Web_shape⟩
  haveI : FldI K (He.ga K "Web") "_rows" := ⟨T.c_Web, T.n_Web__rows⟩
  haveI : FldI K (He.ga K "Web") "_numbers" := ⟨T.c_Web, T.n_Web__numbers⟩
  haveI : FldI K (He.ga K "Standing") "web" := ⟨T.c_Standing, T.n_Standing_web⟩
  haveI : FldI K (He.ga K "Standing") "_modes" := ⟨T.c_Standing, T.n_Standing__modes⟩
  haveI : FldI K (He.ga K "Standing") "_holds" := ⟨T.c_Standing, T.n_Standing__holds⟩
  haveI : FldI K (He.ga K "Standing") "_loose" := ⟨T.c_Standing, T.n_Standing__loose⟩
  haveI : FldI K (He.ga K "Weaving") "web" := ⟨T.c_Weaving, T.n_Weaving_web⟩
  haveI : FldI K (He.ga K "Weaving") "_events" := ⟨T.c_Weaving, T.n_Weaving__events⟩
  haveI : FldI K (He.ga K "Weaving") "_standings" := ⟨T.c_Weaving, T.n_Weaving__standings⟩
  haveI : FldI K (He.ga K "Weaving") "_lockers" := ⟨T.c_Weaving, T.n_Weaving__lockers⟩
  haveI : FldI K (He.ga K "Weaving") "_edges" := ⟨T.c_Weaving, T.n_Weaving__edges⟩
  haveI := T.v_Shape_MARKS
  haveI := T.v_Shape_PARENTS
  haveI := T.v_Web_MOST
  haveI := T.i_DEEDS
  haveI := T.i_MODES
  refine calD T.f__law_marks T.g__law_marks sc__law_marks (fun _ _ _ _ _ _ us hl => match us, hl with | [_, _, _], _ => rfl) (fun _ => rfl) (fun cdv A outer s H E hr => ?_)
  have hu := hu_of hr
  have hu64 := hu64_of hr
  have hu65 := hu65_of hr
  refine ⟨_, (pss_cons (ps_set (i := 3) sc__law_marks.nd rfl (by first | exact Or.inl rfl | exact Or.inr rfl) pe_str)
    (pss_cons (ps_set (i := 4) sc__law_marks.nd rfl (by first | exact Or.inl rfl | exact Or.inr rfl) (pe_c C__law_take hr (by decide) (by rfl) (pa_cons (pv 0) (pa_cons (pv 1) (pa_cons pe_int pa_nil)))))
    (pss_cons (ps_set (i := 5) sc__law_marks.nd rfl (by first | exact Or.inl rfl | exact Or.inr rfl) (pe_slice (slStr) (pe_op op_plus (pv 3) (pv 3)) (po_some (pv 4)) (po_some (pe_op op_plus (pv 4) pe_int))))
    (pss_cons (ps_set (i := 6) sc__law_marks.nd rfl (by first | exact Or.inl rfl | exact Or.inr rfl) (pe_cmpR (eqU K hu64) (pe_c C__law_take hr (by decide) (by rfl) (pa_cons (pv 0) (pa_cons (pv 1) (pa_cons pe_int pa_nil)))) pe_int (nomark _)))
    (pss_cons (ps_set (i := 7) sc__law_marks.nd rfl (by first | exact Or.inl rfl | exact Or.inr rfl) (pe_lst pa_nil))
    (pss_cons (ps_for PassesOwn.never rfl (pi_range1 (by rfl) T.z_range (pa_cons (pv 2) pa_nil)) (pg_name (i := 8) sc__law_marks.nd rfl (by first | exact Or.inl rfl | exact Or.inr rfl))
    (pss_cons (ps_set (i := 9) sc__law_marks.nd rfl (by first | exact Or.inl rfl | exact Or.inr rfl) (pe_slice (slStr) (pv 5) po_none (po_some (pe_c C__law_take hr (by decide) (by rfl) (pa_cons (pv 0) (pa_cons (pv 1) (pa_cons pe_int pa_nil)))))))
    (pss_cons (ps_set (i := 10) sc__law_marks.nd rfl (by first | exact Or.inl rfl | exact Or.inr rfl) (pe_ix (ixU K) (pv 3) (pe_op op_mod (pe_callTy c_int (by rfl) T.z_int (by decide +kernel) (pa_cons (pe_op op_plus (pv 4) (pe_op op_mul pe_int (pv 8))) pa_nil)) pe_int) (fun _ _ => rfl)))
    (pss_one (ps_if (pt_val (pv 6)) (pss_one (ps_expr (pe_bm PySem.F.plainAttrs_list PySem.F.slot_list_append PySem.F.type_list_append mt_append (pv 7) (pa_cons (pe_op op_plus (pv 10) (pv 9)) pa_nil)))) (pss_one (ps_expr (pe_bm PySem.F.plainAttrs_list PySem.F.slot_list_append PySem.F.type_list_append mt_append (pv 7) (pa_cons (pe_op op_plus (pv 9) (pv 10)) pa_nil)))))))))
    (pss_one (ps_ret (pv 7))))))))), ?_⟩
  rintro ⟨ds, a, k, n⟩ L g fr Q ⟨h1, h2, h3, h4⟩ hR
  dsimp only at h1 h2 h3 h4
  show Gk L [some (rLs (ds.map G.rI)), some (rA a), some (G.rI n), none, none, none, none, none, none, none, none] [g] (oLs a [G.rI k] :: fr) _
  walk_at "g"
  refine k_callF (c := ct__law_take) (ds, a, k, 26) rfl rfl ⟨(by decide : (0:Int) < 26), h1, h2⟩ ?_
  rintro (s : Int) ⟨(s1 : 0 ≤ s), (s2 : s < 26)⟩
  conv => arg 3; dsimp only [ct__law_take]
  conv => arg 4; dsimp only [ct__law_take, List.cons_append, List.nil_append, List.eraseIdx]
  walk_at "g"
  refine k_callF (c := ct__law_take) (ds, a, k + 1, 2) rfl rfl ⟨(by decide : (0:Int) < 2), (by omega : (0:Int) ≤ k + 1), h2⟩ ?_
  rintro (t : Int) -
  conv => arg 3; dsimp only [ct__law_take]
  conv => arg 4; dsimp only [ct__law_take, List.cons_append, List.nil_append, List.eraseIdx]
  walk_at "g"
  rename_i p
  refine ga_front 1 rfl ?_
  dsimp only [List.eraseIdx]
  generalize hfr : decide (t = 1) = f
  generalize htl : cutS (abc ++ abc) (some s) (some (s + 7)) = tl
  have htl1 : (cl tl).length ≤ 7 := by rw [← htl]; exact cut_len_seg (n := 7) s1
  have htl2 : ∀ c ∈ cl tl, Ltr c := by
    rw [← htl]
    intro c hc
    have q := cut_sub hc
    rw [cl_app] at q
    rcases List.mem_append.mp q with q | q <;> exact q
  refine k_forRn (T := List Str × Int) (fun i s' => s'.1.length = i ∧ Mks f s s'.1 ∧ 0 ≤ s'.2) (fun _ => [some (rLs (ds.map G.rI)), some (rA a), some (G.rI n), some (rS abc), some (G.rI s), some (rS tl), some (rB f), some (rA p), none, none, none]) (fun s' => oLs a [G.rI s'.2] :: oLs p (s'.1.map rS) :: fr) ([], k + 1 + 1) ?z ⟨rfl, Mks.nil, by show 0 ≤ k + 1 + 1; omega⟩ (by walk_at "le") rfl ?_ ?_
  case z => omega
  · rintro i ⟨ms, k'⟩ N hi ⟨(j1 : ms.length = i), (j2 : Mks f s ms), (j3 : 0 ≤ k')⟩ hN
    dsimp only at hN ⊢
    walk_at "g"
    refine k_callF (c := ct__law_take) (ds, a, k', 8) rfl rfl ⟨(by decide : (0:Int) < 8), j3, h2⟩ ?_
    rintro (z : Int) ⟨(z1 : 0 ≤ z), (z2 : z < 8)⟩
    conv => arg 3; dsimp only [ct__law_take]
    conv => arg 4; dsimp only [ct__law_take, List.cons_append, List.nil_append, List.eraseIdx]
    have htll := len_cl tl
    walk_at "g"
    generalize hw : cutS tl none (some z) = w
    have hw1 : (cl w).length ≤ 7 := by rw [← hw]; have := cut_len_to (z := tl) z1; omega
    have hw2 : ∀ c ∈ cl w, Ltr c := by rw [← hw]; exact fun c hc => htl2 c (cut_sub hc)
    have hwl := len_cl w
    refine k_ixS (c := sg s i) (by decide) ?_ ?_
    · rw [Int.zero_add]; exact abc_at (by omega)
    have h1l : (⟨#[sg s i]⟩ : Str).length = 1 := rfl
    have hml : ms.length ≤ 10000 := by omega
    walk_at "g"
    · subst ‹f = true›
      refine k_le (by walk_at "le") rfl (hN (ms ++ [(⟨#[sg s i]⟩ : Str) ++ w], k' + 1) ?_)
      exact ⟨by simp [j1], j2.front j1 hw2 hw1, by show 0 ≤ k' + 1; omega⟩
    · subst ‹f = false›
      refine k_le (by walk_at "le") rfl (hN (ms ++ [w ++ (⟨#[sg s i]⟩ : Str)], k' + 1) ?_)
      exact ⟨by simp [j1], j2.back j1 hw2 hw1, by show 0 ≤ k' + 1; omega⟩
  · rintro ⟨ms, k'⟩ ⟨(j1 : ms.length = n.toNat), (j2 : Mks f s ms), (j3 : 0 ≤ k')⟩
    dsimp only
    walk_at "g"
    refine n_frzT ?_
    refine k_fin hR (ms, k') ⟨⟨?_, j2.mk, j2.nodup (by omega)⟩, j3⟩ (fun _ h => h)
    show (ms.length : Int) = n
    omega

end


/-! _law_rows -/
def ct__law_rows : Ct where
  δ := List Int × Addr × Int × Int
  ε := List Str × List Row × Int
  ok d := 0 ≤ d.2.2.1 ∧ d.1.length ≤ 10000 ∧ 0 ≤ d.2.2.2 ∧ d.2.2.2 ≤ 6
  pre d := [rLs (d.1.map G.rI), rA d.2.1, G.rI d.2.2.2]
  own d := [oLs d.2.1 [G.rI d.2.2.1]]
  post d e := (e.1.length = d.2.2.2 ∧ RowsOk e.1 e.2.1) ∧ 0 ≤ e.2.2
  ret d e := rLs (e.2.1.map rRow)
  out d e := [oLs d.2.1 [G.rI e.2.2]]
section
variable {P : Program} {w : World} {K : PySem.W.Frag} {mg : Str → Option Value} {base : Heap}
set_option maxHeartbeats 4000000 in
theorem ok__law_rows (T : Txt K mg) (C__law_marks : Cal P w K mg base 2 "_law_marks" (Fn ct__law_marks) []) (C__law_take : Cal P w K mg base 1 "_law_take" (Fn ct__law_take) []) : Cal P w K mg base 3 "_law_rows" (Fn ct__law_rows) [] := by
  haveI : FldI K (He.ga K "Shape") "_listed" := ⟨T.c_Shape, T.n_Shape__listed⟩
  haveI : FldI K (He.ga K "Shape") "_marks" := ⟨T.c_Shape, T.n_Shape__marks⟩
  haveI : FldI K (He.ga K "Web") "shape" := ⟨T.c_Web, T.n_Web_shape⟩
  haveI : FldI K (He.ga K "Web") "_rows" := ⟨T.c_Web, T.n_Web__rows⟩
  haveI : FldI K (He.ga K "Web") "_numbers" := ⟨T.c_Web, T.n_Web__numbers⟩
  haveI : FldI K (He.ga K "Standing") "web" := ⟨T.c_Standing, T.n_Standing_web⟩
  haveI : FldI K (He.ga K "Standing") "_modes" := ⟨T.c_Standing, T.n_Standing__modes⟩
  haveI : FldI K (He.ga K "Standing") "_holds" := ⟨T.c_Standing, T.n_Standing__holds⟩
  haveI : FldI K (He.ga K "Standing") "_loose" := ⟨T.c_Standing, T.n_Standing__loose⟩
  haveI : FldI K (He.ga K "Weaving") "web" := ⟨T.c_Weaving, T.n_Weaving_web⟩
  haveI : FldI K (He.ga K "Weaving") "_events" := ⟨T.c_Weaving, T.n_Weaving__events⟩
  haveI : FldI K (He.ga K "Weaving") "_standings" := ⟨T.c_Weaving, T.n_Weaving__standings⟩
  haveI : FldI K (He.ga K "Weaving") "_lockers" := ⟨T.c_Weaving, T.n_Weaving__lockers⟩
  haveI : FldI K (He.ga K "Weaving") "_edges" := ⟨T.c_Weaving, T.n_Weaving__edges⟩
  haveI := T.v_Shape_MARKS
  haveI := T.v_Shape_PARENTS
  haveI := T.v_Web_MOST
  haveI := T.i_DEEDS
  haveI := T.i_MODES
  refine calD T.f__law_rows T.g__law_rows sc__law_rows (fun _ _ _ _ _ _ us hl => match us, hl with | [_, _, _], _ => rfl) (fun _ => rfl) (fun cdv A outer s H E hr => ?_)
  have hu := hu_of hr
  have hu64 := hu64_of hr
  have hu65 := hu65_of hr
  refine ⟨_, (pss_cons (ps_set (i := 3) sc__law_rows.nd rfl (by first | exact Or.inl rfl | exact Or.inr rfl) (pe_c C__law_marks hr (by decide) (by rfl) (pa_cons (pv 0) (pa_cons (pv 1) (pa_cons (pv 2) pa_nil)))))
    (pss_cons (ps_set (i := 4) sc__law_rows.nd rfl (by first | exact Or.inl rfl | exact Or.inr rfl) (pe_lst pa_nil))
    (pss_cons (ps_for PassesOwn.never rfl (pi_range1 (by rfl) T.z_range (pa_cons (pv 2) pa_nil)) (pg_name (i := 5) sc__law_rows.nd rfl (by first | exact Or.inl rfl | exact Or.inr rfl))
    (pss_cons (ps_setLc (i := 6) (own := [("_law_mark", 9)]) rfl sc__law_rows.nd rfl rfl (sw_true rfl rfl rfl (by decide +kernel)) (piL K (pv 3)) (blkOk_by (own := [("_law_mark", 9)]) (N := N__law_rows) (sc := (defScope s__law_rows)) (by decide +kernel)) (fun _ _ _ _ _ => (pg_name (i := 9) sc__law_rows.nd rfl (by first | exact Or.inl rfl | exact Or.inr rfl))) (fun _ _ _ _ _ => pts_one (pt_cmpR op_lt (pe_c C__law_take hr (by decide) (by rfl) (pa_cons (pv 0) (pa_cons (pv 1) (pa_cons pe_int pa_nil)))) pe_int (nomark _))) (fun _ _ _ _ _ => (pv 9)))
    (pss_cons (ps_set (i := 7) sc__law_rows.nd rfl (by first | exact Or.inl rfl | exact Or.inr rfl) pe_int)
    (pss_cons (ps_set (i := 8) sc__law_rows.nd rfl (by first | exact Or.inl rfl | exact Or.inr rfl) pe_int)
    (pss_cons (ps_if (pt_cmpR op_gt (pe_callB (lenU K) (by rfl) T.z_len PySem.boot_len (pa_cons (pv 6) pa_nil)) pe_int (nomark _)) (pss_one (ps_set (i := 7) sc__law_rows.nd rfl (by first | exact Or.inl rfl | exact Or.inr rfl) (pe_ix (ixU K) (pe_lst (pa_cons pe_int (pa_cons pe_int (pa_cons pe_int pa_nil)))) (pe_c C__law_take hr (by decide) (by rfl) (pa_cons (pv 0) (pa_cons (pv 1) (pa_cons pe_int pa_nil)))) (fun _ _ => rfl)))) pss_nil)
    (pss_cons (ps_if (pt_cmpR op_gt (pe_callB (lenU K) (by rfl) T.z_len PySem.boot_len (pa_cons (pe_lc (own := [("_law_mark", 9)]) rfl sc__law_rows.nd (piL K (pv 6)) (blkOk_by (own := [("_law_mark", 9)]) (N := N__law_rows) (sc := (defScope s__law_rows)) (by decide +kernel)) (fun _ _ _ _ _ => (pg_name (i := 9) sc__law_rows.nd rfl (by first | exact Or.inl rfl | exact Or.inr rfl))) (fun _ _ _ _ _ => pts_one (pt_cmpR (inU K hu65) (pv 9) (pe_slice (slLst K) (pv 3) po_none (po_some (pv 5))) rfl)) (fun _ _ _ _ _ => (pv 9))) pa_nil)) pe_int (nomark _)) (pss_one (ps_set (i := 8) sc__law_rows.nd rfl (by first | exact Or.inl rfl | exact Or.inr rfl) (pe_ix (ixU K) (pe_lst (pa_cons pe_int (pa_cons pe_int (pa_cons pe_int pa_nil)))) (pe_c C__law_take hr (by decide) (by rfl) (pa_cons (pv 0) (pa_cons (pv 1) (pa_cons pe_int pa_nil)))) (fun _ _ => rfl)))) pss_nil)
    (pss_one (ps_expr (pe_bm PySem.F.plainAttrs_list PySem.F.slot_list_append PySem.F.type_list_append mt_append (pv 4) (pa_cons (pe_lst (pa_cons (pe_ix (ixU K) (pv 3) (pv 5) (fun _ _ => rfl)) (pa_cons (pv 6) (pa_cons (pv 8) (pa_cons (pv 7) (pa_cons (pe_cmpR (eqU K hu64) (pe_c C__law_take hr (by decide) (by rfl) (pa_cons (pv 0) (pa_cons (pv 1) (pa_cons pe_int pa_nil)))) pe_int (nomark _)) pa_nil)))))) pa_nil))))))))))
    (pss_one (ps_ret (pv 4)))))), ?_⟩
  rintro ⟨ds, a, k, n⟩ L g fr Q ⟨h1, h2, h3, h4⟩ hR
  dsimp only at h1 h2 h3 h4
  show Gk L [some (rLs (ds.map G.rI)), some (rA a), some (G.rI n), none, none, none, none, none, none, none] [g] (oLs a [G.rI k] :: fr) _
  walk_at "g"
  refine k_callF (c := ct__law_marks) (ds, a, k, n) rfl rfl ⟨h1, h2, h3, h4⟩ ?_
  rintro ⟨ms, k1⟩ ⟨⟨(m1 : (ms.length : Int) = n), (m2 : ∀ m ∈ ms, isMk m), (m3 : ms.Nodup)⟩, (m4 : 0 ≤ k1)⟩
  conv => arg 3; dsimp only [ct__law_marks]
  conv => arg 4; dsimp only [ct__law_marks, List.cons_append, List.nil_append, List.eraseIdx]
  walk_at "g"
  rename_i p
  refine ga_front 1 rfl ?_
  dsimp only [List.eraseIdx]
  refine k_forRn (T := List Row × Int) (fun i s => (s.1.length = i ∧ ∀ (k : Nat) r, s.1[k]? = some r → RowAt ms k r) ∧ 0 ≤ s.2) (fun _ => [some (rLs (ds.map G.rI)), some (rA a), some (G.rI n), some (rLs (ms.map rS)), some (rA p), none, none, none, none, none]) (fun s => oLs a [G.rI s.2] :: oLs p (s.1.map rRow) :: fr) ([], k1) ?z ⟨⟨rfl, fun k r e => by simp at e⟩, m4⟩ (by walk_at "le") rfl ?_ ?_
  case z => omega
  · rintro i ⟨rows, k2⟩ N hi ⟨⟨(j1 : rows.length = i), (j2 : ∀ (k : Nat) r, rows[k]? = some r → RowAt ms k r)⟩, (j3 : 0 ≤ k2)⟩ hN
    dsimp only at hN ⊢
    walk_at "g"
    refine k_lcLx (w := ⟨rfl⟩) (T := List Str × Int) (xs := ms) (t := rS) (fun i s => s.1.Sublist (ms.take i) ∧ 0 ≤ s.2) (fun s => s.1.map rS) (fun s => oLs a [G.rI s.2] :: oLs p (rows.map rRow) :: fr) (fun x => [some (rLs (ds.map G.rI)), some (rA a), some (G.rI n), some (rLs (ms.map rS)), some (rA p), some (G.rI (0 + (i : Int))), none, none, none, some (rS x)]) ([], k2) ⟨List.nil_sublist _, j3⟩ rfl rfl (by omega) (fun x => gok_nm rfl (by decide)) ?_ ?_
    · rintro j x ⟨acc, k3⟩ D Ke Kn gx hx ⟨(q1 : acc.Sublist (ms.take j)), (q2 : 0 ≤ k3)⟩ hE hNn
      dsimp only at hE hNn ⊢
      walk_at "g"
      refine ga_front 1 rfl ?_
      refine k_callF (c := ct__law_take) (ds, a, k3, 3) rfl rfl ⟨(by decide : (0:Int) < 3), q2, h2⟩ ?_
      rintro (z : Int) -
      conv => arg 3; dsimp only [ct__law_take]
      conv => arg 4; dsimp only [ct__law_take, List.cons_append, List.nil_append, List.eraseIdx]
      walk_at "g"
      refine k_perm (List.Perm.swap _ _ _) ?_
      refine k_lcb (fun hz => ?_) (fun hz => ?_)
      · walk_at "g"
        refine hE (rS x) (acc ++ [x], k3 + 1) _ ⟨?_, by show 0 ≤ k3 + 1; omega⟩ (by simp)
        rw [take_snoc hx]
        exact q1.append (List.Sublist.refl _)
      · refine hNn (acc, k3 + 1) _ ⟨?_, by show 0 ≤ k3 + 1; omega⟩ rfl
        rw [take_snoc hx]
        exact q1.trans (List.sublist_append_left _ _)
    · rintro ⟨ps, k3⟩ D ⟨(q1 : ps.Sublist (ms.take ms.length)), (q2 : 0 ≤ k3)⟩
      rw [List.take_length] at q1
      dsimp only
      refine n_frzT ?_
      have hps : ps.length ≤ 6 := by have := q1.length_le; omega
      walk_at "g0"
      refine k_cut (T := Int × Int) (fun s => (0 ≤ s.1 ∧ s.1 ≤ 2 ∧ (0 < s.1 ↔ ps ≠ [])) ∧ 0 ≤ s.2) (fun s => [some (rLs (ds.map G.rI)), some (rA a), some (G.rI n), some (rLs (ms.map rS)), some (rA p), some (G.rI (0 + (i : Int))), some (rLs (ps.map rS)), some (G.rI s.1), some (G.rI 0), none]) (fun s => oLs a [G.rI s.2] :: oLs p (rows.map rRow) :: fr) ?_ (fun c => ?_)
      · rintro ⟨mo, k4⟩ ⟨⟨(u1 : 0 ≤ mo), (u2 : mo ≤ 2), (u3 : 0 < mo ↔ ps ≠ [])⟩, (u4 : 0 ≤ k4)⟩
        dsimp only
        walk_at "g0"
        refine k_lcL (w := ⟨rfl⟩) (xs := ps) (t := rS) (fun x => decide (x ∈ ms.take i)) rS (fun x => [some (rLs (ds.map G.rI)), some (rA a), some (G.rI n), some (rLs (ms.map rS)), some (rA p), some (G.rI (0 + (i : Int))), some (rLs (ps.map rS)), some (G.rI mo), some (G.rI 0), some (rS x)]) (by omega) (fun x => gok_nm rfl (by decide)) (fun x hx gx D acc K2 h => ?_) (fun x hx hp gx D acc K' h => ?_) (fun D => ?_)
        · walk_at "g"
          have e : cutR ms none (some (0 + (i : Int))) = ms.take i := by rw [cut_to (by omega)]; congr 1; omega
          rw [e]
          exact h
        · walk_at "g"
          exact h
        · refine n_frzT ?_
          generalize hqs : ps.filter (fun x => decide (x ∈ ms.take i)) = qs
          walk_at "g0"
          refine k_cut (T := Int × Int) (fun s => (0 ≤ s.1 ∧ s.1 ≤ 1 ∧ (0 < s.1 → qs ≠ [])) ∧ 0 ≤ s.2) (fun s => [some (rLs (ds.map G.rI)), some (rA a), some (G.rI n), some (rLs (ms.map rS)), some (rA p), some (G.rI (0 + (i : Int))), some (rLs (ps.map rS)), some (G.rI mo), some (G.rI s.1), none]) (fun s => oLs a [G.rI s.2] :: oLs p (rows.map rRow) :: fr) ?_ (fun c => ?_)
          · rintro ⟨le, k5⟩ ⟨⟨(w1 : 0 ≤ le), (w2 : le ≤ 1), (w3 : 0 < le → qs ≠ [])⟩, (w4 : 0 ≤ k5)⟩
            dsimp only
            walk_at "g0"
            refine k_callF (c := ct__law_take) (ds, a, k5, 3) rfl rfl ⟨(by decide : (0:Int) < 3), w4, h2⟩ ?_
            rintro (z : Int) -
            conv => arg 3; dsimp only [ct__law_take]
            conv => arg 4; dsimp only [ct__law_take, List.cons_append, List.nil_append, List.eraseIdx]
            walk_at "g"
            refine k_le (by walk_at "le") ?_ (hN (rows ++ [⟨ms.getD (0 + (i : Int)).toNat default, ps, le, mo, decide (z = 1)⟩], k5 + 1) ⟨⟨by simp [j1], snoc_all j2 j1 ?_⟩, (by omega : 0 ≤ k5 + 1)⟩)
            · dsimp only; rw [List.map_append]; rfl
            · have hi2 : i < ms.length := by omega
              have ei : (0 + (i : Int)).toNat = i := by omega
              refine ⟨?_, q1, ⟨w1, w2, ?_, u2, u3⟩, ?_⟩
              · rw [ei, List.getD_eq_getElem?_getD, List.getElem?_eq_getElem hi2]; rfl
              · show le ≤ mo
                by_cases z : 0 < le
                · have h0 := w3 z
                  have : ps ≠ [] := fun e => h0 (by rw [← hqs, e]; rfl)
                  have := u3.mpr this
                  omega
                · omega
              · show le = 0 ∨ ∃ m ∈ ps, m ∈ ms.take i
                by_cases z : 0 < le
                · have h0 := w3 z
                  obtain ⟨m, hm⟩ := List.exists_mem_of_ne_nil _ h0
                  rw [← hqs] at hm
                  have := List.mem_filter.mp hm
                  exact .inr ⟨m, this.1, of_decide_eq_true this.2⟩
                · exact .inl (by omega)
          · refine k_ifD (fun hl => ?_) (fun hl => ?_)
            · have hl : 0 < qs.length := by simpa using hl
              walk_at "gb"
              refine k_callF (c := ct__law_take) (ds, a, k4, 3) rfl rfl ⟨(by decide : (0:Int) < 3), u4, h2⟩ ?_
              rintro (z : Int) ⟨(z1 : 0 ≤ z), (z2 : z < 3)⟩
              conv => arg 3; dsimp only [ct__law_take]
              conv => arg 4; dsimp only [ct__law_take, List.cons_append, List.nil_append, List.eraseIdx]
              refine k_ixLm (t := G.rI) (xs := [0, 0, 1]) ⟨z1, z2⟩ ?_
              walk_at "gb"
              have hv : ∀ z : Nat, z < 3 → 0 ≤ ([0, 0, 1] : List Int).getD z default ∧ ([0, 0, 1] : List Int).getD z default ≤ 1 := by decide
              have hv := hv z.toNat (by omega)
              refine k_le (by walk_at "le") rfl (c (([0, 0, 1] : List Int).getD z.toNat default, k4 + 1) ⟨⟨hv.1, hv.2, ?_⟩, ?_⟩)
              · exact fun _ e => by rw [e] at hl; cases hl
              · show 0 ≤ k4 + 1; omega
            · walk_at "gb"
              refine k_le (by walk_at "le") rfl (c (0, k4) ⟨⟨Int.le_refl _, (by decide : (0:Int) ≤ 1), ?_⟩, u4⟩)
              exact fun h => absurd h (by decide : ¬ (0:Int) < 0)
      · refine k_ifD (fun hl => ?_) (fun hl => ?_)
        · have hl : 0 < ps.length := by omega
          walk_at "gb"
          refine k_callF (c := ct__law_take) (ds, a, k3, 3) rfl rfl ⟨(by decide : (0:Int) < 3), q2, h2⟩ ?_
          rintro (z : Int) ⟨(z1 : 0 ≤ z), (z2 : z < 3)⟩
          conv => arg 3; dsimp only [ct__law_take]
          conv => arg 4; dsimp only [ct__law_take, List.cons_append, List.nil_append, List.eraseIdx]
          refine k_ixLm (t := G.rI) (xs := [1, 2, 2]) ⟨z1, z2⟩ ?_
          walk_at "gb"
          have hv : ∀ z : Nat, z < 3 → 1 ≤ ([1, 2, 2] : List Int).getD z default ∧ ([1, 2, 2] : List Int).getD z default ≤ 2 := by decide
          have hv := hv z.toNat (by omega)
          refine k_le (by walk_at "le") rfl (c (([1, 2, 2] : List Int).getD z.toNat default, k3 + 1) ⟨⟨?_, hv.2, ?_⟩, ?_⟩)
          · show 0 ≤ ([1, 2, 2] : List Int).getD z.toNat default; omega
          · exact ⟨fun _ e => (by rw [e] at hl; cases hl), fun _ => (by show 0 < ([1, 2, 2] : List Int).getD z.toNat default; omega)⟩
          · show 0 ≤ k3 + 1; omega
        · walk_at "gb"
          refine k_le (by walk_at "le") rfl (c (0, k3) ⟨⟨Int.le_refl _, (by decide : (0:Int) ≤ 2), ?_⟩, q2⟩)
          exact ⟨fun h => absurd h (by decide : ¬ (0:Int) < 0), fun h => absurd (List.length_pos_iff.mpr h) (by omega)⟩
  · rintro ⟨rows, k2⟩ ⟨⟨(j1 : rows.length = n.toNat), (j2 : ∀ (k : Nat) r, rows[k]? = some r → RowAt ms k r)⟩, (j3 : 0 ≤ k2)⟩
    dsimp only
    walk_at "g"
    refine n_frzT ?_
    refine k_fin hR (ms, rows, k2) ⟨⟨m1, .of m2 m3 (by show rows.length = ms.length; omega) j2⟩, j3⟩ (fun _ h => h)

end


/-! _law_way -/
def ct__law_way : Ct where
  δ := List Int × Addr × Int
  ε := Way × Int
  ok d := 0 ≤ d.2.2 ∧ d.1.length ≤ 10000
  pre d := [rLs (d.1.map G.rI), rA d.2.1]
  own d := [oLs d.2.1 [G.rI d.2.2]]
  post d e := WayOk e.1 ∧ 0 ≤ e.2
  ret d e := rWay e.1
  out d e := [oLs d.2.1 [G.rI e.2]]
section
variable {P : Program} {w : World} {K : PySem.W.Frag} {mg : Str → Option Value} {base : Heap}
set_option maxHeartbeats 4000000 in
theorem ok__law_way (T : Txt K mg) (C__law_take : Cal P w K mg base 1 "_law_take" (Fn ct__law_take) []) : Cal P w K mg base 2 "_law_way" (Fn ct__law_way) [] := by
  haveI : FldI K (He.ga K "Shape") "_listed" := ⟨T.c_Shape, T.n_Shape__listed⟩
  haveI : FldI K (He.ga K "Shape") "_marks" := ⟨T.c_Shape, T.n_Shape__marks⟩
  haveI : FldI K (He.ga K "Web") "shape" := ⟨T.c_Web, T.n_Web_shape⟩
  haveI : FldI K (He.ga K "Web") "_rows" := ⟨T.c_Web, T.n_Web__rows⟩
  haveI : FldI K (He.ga K "Web") "_numbers" := ⟨T.c_Web, T.n_Web__numbers⟩
  haveI : FldI K (He.ga K "Standing") "web" := ⟨T.c_Standing, T.n_Standing_web⟩
  haveI : FldI K (He.ga K "Standing") "_modes" := ⟨T.c_Standing, T.n_Standing__modes⟩
  haveI : FldI K (He.ga K "Standing") "_holds" := ⟨T.c_Standing, T.n_Standing__holds⟩
  haveI : FldI K (He.ga K "Standing") "_loose" := ⟨T.c_Standing, T.n_Standing__loose⟩
  haveI : FldI K (He.ga K "Weaving") "web" := ⟨T.c_Weaving, T.n_Weaving_web⟩
  haveI : FldI K (He.ga K "Weaving") "_events" := ⟨T.c_Weaving, T.n_Weaving__events⟩
  haveI : FldI K (He.ga K "Weaving") "_standings" := ⟨T.c_Weaving, T.n_Weaving__standings⟩
  haveI : FldI K (He.ga K "Weaving") "_lockers" := ⟨T.c_Weaving, T.n_Weaving__lockers⟩
  haveI : FldI K (He.ga K "Weaving") "_edges" := ⟨T.c_Weaving, T.n_Weaving__edges⟩
  haveI := T.v_Shape_MARKS
  haveI := T.v_Shape_PARENTS
  haveI := T.v_Web_MOST
  haveI := T.i_DEEDS
  haveI := T.i_MODES
  refine calD T.f__law_way T.g__law_way sc__law_way (fun _ _ _ _ _ _ us hl => match us, hl with | [_, _], _ => rfl) (fun _ => rfl) (fun cdv A outer s H E hr => ?_)
  have hu := hu_of hr
  have hu64 := hu64_of hr
  have hu65 := hu65_of hr
  refine ⟨_, (pss_cons (ps_set (i := 2) sc__law_way.nd rfl (by first | exact Or.inl rfl | exact Or.inr rfl) (pe_lst (pa_cons (pe_lst (pa_cons pe_int (pa_cons pe_int (pa_cons pe_int (pa_cons pe_bl pa_nil))))) (pa_cons (pe_lst (pa_cons pe_int (pa_cons pe_int (pa_cons pe_int (pa_cons pe_bl pa_nil))))) (pa_cons (pe_lst (pa_cons pe_int (pa_cons pe_int (pa_cons pe_int (pa_cons pe_bl pa_nil))))) (pa_cons (pe_lst (pa_cons pe_int (pa_cons pe_int (pa_cons pe_int (pa_cons pe_bl pa_nil))))) (pa_cons (pe_lst (pa_cons pe_int (pa_cons pe_int (pa_cons pe_int (pa_cons pe_bl pa_nil))))) pa_nil)))))))
    (pss_cons (ps_set (i := 3) sc__law_way.nd rfl (by first | exact Or.inl rfl | exact Or.inr rfl) (pe_c C__law_take hr (by decide) (by rfl) (pa_cons (pv 0) (pa_cons (pv 1) (pa_cons pe_int pa_nil)))))
    (pss_cons (ps_if (pt_cmpR op_lt (pv 3) pe_int (nomark _)) (pss_one (ps_ret (pe_ix (ixU K) (pv 2) (pv 3) (fun _ _ => rfl)))) pss_nil)
    (pss_cons (ps_set (i := 4) sc__law_way.nd rfl (by first | exact Or.inl rfl | exact Or.inr rfl) (pe_c C__law_take hr (by decide) (by rfl) (pa_cons (pv 0) (pa_cons (pv 1) (pa_cons pe_int pa_nil)))))
    (pss_cons (ps_set (i := 5) sc__law_way.nd rfl (by first | exact Or.inl rfl | exact Or.inr rfl) (pe_op op_plus (pv 4) (pe_c C__law_take hr (by decide) (by rfl) (pa_cons (pv 0) (pa_cons (pv 1) (pa_cons (pe_op op_sub pe_int (pv 4)) pa_nil))))))
    (pss_cons (ps_set (i := 6) sc__law_way.nd rfl (by first | exact Or.inl rfl | exact Or.inr rfl) (pe_op op_plus (pv 5) (pe_c C__law_take hr (by decide) (by rfl) (pa_cons (pv 0) (pa_cons (pv 1) (pa_cons (pe_op op_sub pe_int (pv 5)) pa_nil))))))
    (pss_one (ps_ret (pe_lst (pa_cons (pv 5) (pa_cons (pv 4) (pa_cons (pv 6) (pa_cons (pe_cmpR (eqU K hu64) (pe_c C__law_take hr (by decide) (by rfl) (pa_cons (pv 0) (pa_cons (pv 1) (pa_cons pe_int pa_nil)))) pe_int (nomark _)) pa_nil))))))))))))), ?_⟩
  rintro ⟨ds, a, k⟩ L g fr Q ⟨h1, h2⟩ hR
  dsimp only at h1 h2
  show Gk L [some (rLs (ds.map G.rI)), some (rA a), none, none, none, none, none] [g] (oLs a [G.rI k] :: fr) _
  walk_at "g"
  refine k_callF (c := ct__law_take) (ds, a, k, 9) rfl rfl ⟨(by decide : (0:Int) < 9), h1, h2⟩ ?_
  rintro (c : Int) ⟨(c1 : 0 ≤ c), (c2 : c < 9)⟩
  conv => arg 3; dsimp only [ct__law_take]
  conv => arg 4; dsimp only [ct__law_take, List.cons_append, List.nil_append, List.eraseIdx]
  walk_at "g"
  · refine k_ixLm (t := rWay) (xs := [⟨1, 1, 1, false⟩, ⟨2, 2, 2, false⟩, ⟨1, 1, 3, false⟩, ⟨0, 0, 0, true⟩, ⟨1, 0, 1, false⟩]) (by simp; omega) ?_
    refine k_fin hR (_, k + 1) ⟨?_, by show 0 ≤ k + 1; omega⟩ (fun _ h => h)
    have hv : ∀ z : Nat, z < 5 → WayOk (([⟨1, 1, 1, false⟩, ⟨2, 2, 2, false⟩, ⟨1, 1, 3, false⟩, ⟨0, 0, 0, true⟩, ⟨1, 0, 1, false⟩] : List Way).getD z default) := by unfold WayOk; decide
    exact hv _ (by omega)
  · refine k_callF (c := ct__law_take) (ds, a, k + 1, 4) rfl rfl ⟨(by decide : (0:Int) < 4), (by omega : 0 ≤ k + 1), h2⟩ ?_
    rintro (o : Int) ⟨(o1 : 0 ≤ o), (o2 : o < 4)⟩
    conv => arg 3; dsimp only [ct__law_take]
    conv => arg 4; dsimp only [ct__law_take, List.cons_append, List.nil_append, List.eraseIdx]
    walk_at "g"
    refine k_callF (c := ct__law_take) (ds, a, k + 1 + 1, 4 - o) rfl rfl ⟨(by omega : 0 < 4 - o), (by omega : 0 ≤ k + 1 + 1), h2⟩ ?_
    rintro (x : Int) ⟨(x1 : 0 ≤ x), (x2 : x < 4 - o)⟩
    conv => arg 3; dsimp only [ct__law_take]
    conv => arg 4; dsimp only [ct__law_take, List.cons_append, List.nil_append, List.eraseIdx]
    walk_at "g"
    refine k_callF (c := ct__law_take) (ds, a, k + 1 + 1 + 1, 4 - (o + x)) rfl rfl ⟨(by omega : 0 < 4 - (o + x)), (by omega : 0 ≤ k + 1 + 1 + 1), h2⟩ ?_
    rintro (y : Int) ⟨(y1 : 0 ≤ y), (y2 : y < 4 - (o + x))⟩
    conv => arg 3; dsimp only [ct__law_take]
    conv => arg 4; dsimp only [ct__law_take, List.cons_append, List.nil_append, List.eraseIdx]
    walk_at "g"
    refine k_callF (c := ct__law_take) (ds, a, k + 1 + 1 + 1 + 1, 2) rfl rfl ⟨(by decide : (0:Int) < 2), (by omega : 0 ≤ k + 1 + 1 + 1 + 1), h2⟩ ?_
    rintro (z : Int) -
    conv => arg 3; dsimp only [ct__law_take]
    conv => arg 4; dsimp only [ct__law_take, List.cons_append, List.nil_append, List.eraseIdx]
    walk_at "g"
    refine k_fin hR (⟨o + x, o, o + x + y, decide (z = 1)⟩, k + 1 + 1 + 1 + 1 + 1) ⟨?_, by show 0 ≤ k + 1 + 1 + 1 + 1 + 1; omega⟩ (fun _ h => h)
    show (_ ∧ _) ∧ (_ ∧ _) ∧ _ ∧ _
    dsimp only
    omega

end


/-! _law_rules -/
def ct__law_rules : Ct where
  δ := List Int × Addr × Int × List Row
  ε := List Rule × Int
  ok d := 0 ≤ d.2.2.1 ∧ d.1.length ≤ 10000 ∧ (d.2.2.2.map Row.mark).Nodup ∧ d.2.2.2.length ≤ 100
  pre d := [rLs (d.1.map G.rI), rA d.2.1, rLs (d.2.2.2.map rRow)]
  own d := [oLs d.2.1 [G.rI d.2.2.1]]
  post d e := RulesOk (d.2.2.2.map Row.mark) e.1 ∧ 0 ≤ e.2
  ret _ e := rDk (rulesKV e.1)
  out d e := [oLs d.2.1 [G.rI e.2]]
section
variable {P : Program} {w : World} {K : PySem.W.Frag} {mg : Str → Option Value} {base : Heap}
set_option maxHeartbeats 4000000 in
theorem ok__law_rules (T : Txt K mg) (C__law_take : Cal P w K mg base 1 "_law_take" (Fn ct__law_take) []) (C__law_way : Cal P w K mg base 2 "_law_way" (Fn ct__law_way) []) : Cal P w K mg base 3 "_law_rules" (Fn ct__law_rules) [] := by
  haveI : FldI K (He.ga K "Shape") "_listed" := ⟨T.c_Shape, T.n_Shape__listed⟩
  haveI : FldI K (He.ga K "Shape") "_marks" := ⟨T.c_Shape, T.n_Shape__marks⟩
  haveI : FldI K (He.ga K "Web") "shape" := ⟨T.c_Web, T.n_Web_shape⟩
  haveI : FldI K (He.ga K "Web") "_rows" := ⟨T.c_Web, T.n_Web__rows⟩
  haveI : FldI K (He.ga K "Web") "_numbers" := ⟨T.c_Web, T.n_Web__numbers⟩
  haveI : FldI K (He.ga K "Standing") "web" := ⟨T.c_Standing, T.n_Standing_web⟩
  haveI : FldI K (He.ga K "Standing") "_modes" := ⟨T.c_Standing, T.n_Standing__modes⟩
  haveI : FldI K (He.ga K "Standing") "_holds" := ⟨T.c_Standing, T.n_Standing__holds⟩
  haveI : FldI K (He.ga K "Standing") "_loose" := ⟨T.c_Standing, T.n_Standing__loose⟩
  haveI : FldI K (He.ga K "Weaving") "web" := ⟨T.c_Weaving, T.n_Weaving_web⟩
  haveI : FldI K (He.ga K "Weaving") "_events" := ⟨T.c_Weaving, T.n_Weaving__events⟩
  haveI : FldI K (He.ga K "Weaving") "_standings" := ⟨T.c_Weaving, T.n_Weaving__standings⟩
  haveI : FldI K (He.ga K "Weaving") "_lockers" := ⟨T.c_Weaving, T.n_Weaving__lockers⟩
  haveI : FldI K (He.ga K "Weaving") "_edges" := ⟨T.c_Weaving, T.n_Weaving__edges⟩
  haveI := T.v_Shape_MARKS
  haveI := T.v_Shape_PARENTS
  haveI := T.v_Web_MOST
  haveI := T.i_DEEDS
  haveI := T.i_MODES
  refine calD T.f__law_rules T.g__law_rules sc__law_rules (fun _ _ _ _ _ _ us hl => match us, hl with | [_, _, _], _ => rfl) (fun _ => rfl) (fun cdv A outer s H E hr => ?_)
  have hu := hu_of hr
  have hu64 := hu64_of hr
  have hu65 := hu65_of hr
  refine ⟨_, (pss_cons (ps_set (i := 3) sc__law_rules.nd rfl (by first | exact Or.inl rfl | exact Or.inr rfl) pe_dnewK)
    (pss_cons (ps_for PassesOwn.never rfl (piL K (pv 2)) (pg_name (i := 4) sc__law_rules.nd rfl (by first | exact Or.inl rfl | exact Or.inr rfl))
    (pss_cons (ps_set (i := 5) sc__law_rules.nd rfl (by first | exact Or.inl rfl | exact Or.inr rfl) (pe_cmpR (neU K hu64) (pe_c C__law_take hr (by decide) (by rfl) (pa_cons (pv 0) (pa_cons (pv 1) (pa_cons pe_int pa_nil)))) pe_int (nomark _)))
    (pss_cons (ps_set (i := 6) sc__law_rules.nd rfl (by first | exact Or.inl rfl | exact Or.inr rfl) (pe_lst pa_nil))
    (pss_cons (ps_for PassesOwn.never rfl (pi_range1 (by rfl) T.z_range (pa_cons (pe_ix (ixU K) (pe_lst (pa_cons pe_int (pa_cons pe_int (pa_cons pe_int (pa_cons pe_int (pa_cons pe_int pa_nil)))))) (pe_c C__law_take hr (by decide) (by rfl) (pa_cons (pv 0) (pa_cons (pv 1) (pa_cons pe_int pa_nil)))) (fun _ _ => rfl)) pa_nil)) (pg_name (i := 7) sc__law_rules.nd rfl (by first | exact Or.inl rfl | exact Or.inr rfl))
    (pss_one (ps_expr (pe_bm PySem.F.plainAttrs_list PySem.F.slot_list_append PySem.F.type_list_append mt_append (pv 6) (pa_cons (pe_c C__law_way hr (by decide) (by rfl) (pa_cons (pv 0) (pa_cons (pv 1) pa_nil))) pa_nil)))))
    (pss_one (ps_dput hu (pv 3) (pe_ix (ixU K) (pv 4) pe_int (fun _ _ => rfl)) (pe_lst (pa_cons (pv 5) (pa_cons (pv 6) pa_nil))) rfl))))))
    (pss_one (ps_ret (pv 3))))), ?_⟩
  rintro ⟨ds, a, k, rows⟩ L g fr Q ⟨h1, h2, h3, h4⟩ hR
  dsimp only at h1 h2 h3 h4
  show Gk L [some (rLs (ds.map G.rI)), some (rA a), some (rLs (rows.map rRow)), none, none, none, none, none] [g] (oLs a [G.rI k] :: fr) _
  walk_at "g"
  rename_i p
  refine k_front 1 rfl ?_
  conv => arg 4; dsimp only [List.eraseIdx]
  refine k_forL (T := List Rule × Int) (fun i s => (s.1.map Rule.mark = (rows.map Row.mark).take i ∧ ∀ r ∈ s.1, RuleOk r) ∧ 0 ≤ s.2) (fun _ => [some (rLs (ds.map G.rI)), some (rA a), some (rLs (rows.map rRow)), some (rA p), none, none, none, none]) (fun s => oLs a [G.rI s.2] :: oDk p (rulesKV s.1) :: fr) ([], k) ⟨⟨rfl, by simp⟩, h1⟩ (by walk_at "le") rfl ?_ ?_
  · rintro i q gh ⟨rs, k1⟩ N hq ⟨⟨(j1 : rs.map Rule.mark = (rows.map Row.mark).take i), (j2 : ∀ r ∈ rs, RuleOk r)⟩, (j3 : 0 ≤ k1)⟩ hN
    dsimp only at hN ⊢
    obtain ⟨r, hr, rfl⟩ := map_get hq
    have hi := (List.getElem?_eq_some_iff.mp hr).1
    have hm : (rows.map Row.mark)[i]? = some r.mark := by rw [List.getElem?_map, hr]; rfl
    have hl : (rulesKV rs).length ≤ 10000 := by
      have e := congrArg List.length j1
      rw [List.length_map, List.length_take, List.length_map] at e
      unfold rulesKV; rw [List.length_map]; omega
    walk_at "g"
    refine k_callF (c := ct__law_take) (ds, a, k1, 4) rfl rfl ⟨(by decide : (0:Int) < 4), j3, h2⟩ ?_
    rintro (b : Int) -
    conv => arg 3; dsimp only [ct__law_take]
    conv => arg 4; dsimp only [ct__law_take, List.cons_append, List.nil_append, List.eraseIdx]
    walk_at "g"
    rename_i p2
    refine ga_front 1 rfl ?_
    dsimp only [List.eraseIdx]
    refine k_callF (c := ct__law_take) (ds, a, k1 + 1, 5) rfl rfl ⟨(by decide : (0:Int) < 5), (by omega : 0 ≤ k1 + 1), h2⟩ ?_
    rintro (c : Int) ⟨(c1 : 0 ≤ c), (c2 : c < 5)⟩
    conv => arg 3; dsimp only [ct__law_take]
    conv => arg 4; dsimp only [ct__law_take, List.cons_append, List.nil_append, List.eraseIdx]
    refine k_ixLm (t := G.rI) (xs := [1, 1, 2, 1, 0]) ⟨c1, c2⟩ ?_
    walk_at "g"
    have hv : ∀ z : Nat, z < 5 → 0 ≤ ([1, 1, 2, 1, 0] : List Int).getD z default ∧ ([1, 1, 2, 1, 0] : List Int).getD z default ≤ 2 := by decide
    have hv := hv c.toNat (by omega)
    generalize ([1, 1, 2, 1, 0] : List Int).getD c.toNat default = m at hv
    refine k_forRn (T := List Way × Int) (fun i s => (s.1.length = i ∧ ∀ w ∈ s.1, WayOk w) ∧ 0 ≤ s.2) (fun _ => [some (rLs (ds.map G.rI)), some (rA a), some (rLs (rows.map rRow)), some (rA p), some (rRow r), some (rB (!decide (b = 3))), some (rA p2), none]) (fun s => oLs a [G.rI s.2] :: oLs p2 (s.1.map rWay) :: oDk p (rulesKV rs) :: fr) ([], k1 + 1 + 1) ?z ⟨⟨rfl, by simp⟩, by show 0 ≤ k1 + 1 + 1; omega⟩ (by walk_at "le") rfl ?_ ?_
    case z => omega
    · rintro j ⟨ws, k2⟩ N2 hj ⟨⟨(q1 : ws.length = j), (q2 : ∀ w ∈ ws, WayOk w)⟩, (q3 : 0 ≤ k2)⟩ hN2
      dsimp only at hN2 ⊢
      walk_at "g"
      refine k_callF (c := ct__law_way) (ds, a, k2) rfl rfl ⟨q3, h2⟩ ?_
      rintro ⟨w, k3⟩ ⟨(w1 : WayOk w), (w2 : 0 ≤ k3)⟩
      conv => arg 3; dsimp only [ct__law_way]
      conv => arg 4; dsimp only [ct__law_way, List.cons_append, List.nil_append, List.eraseIdx]
      have hwl : ws.length ≤ 10000 := by omega
      walk_at "g"
      refine k_le (by walk_at "le") rfl (hN2 (ws ++ [w], k3) ?_)
      refine ⟨⟨by simp [q1], fun x hx => ?_⟩, w2⟩
      rcases List.mem_append.mp hx with z | z
      · exact q2 x z
      · rw [List.mem_singleton.mp z]; exact w1
    · rintro ⟨ws, k2⟩ ⟨⟨(q1 : ws.length = m.toNat), (q2 : ∀ w ∈ ws, WayOk w)⟩, (q3 : 0 ≤ k2)⟩
      dsimp only
      refine n_frzS 6 ?_
      walk_at "g"
      refine k_le (by walk_at "le") ?_ (hN (rs ++ [⟨r.mark, !decide (b = 3), ws⟩], k2) ⟨⟨?_, ?_⟩, q3⟩)
      · exact congrArg (fun l => oLs a [G.rI k2] :: oDk p l :: fr) (rulesKV_put (r := ⟨r.mark, !decide (b = 3), ws⟩) (by rw [j1]; exact nodup_take h3 hm))
      · show (rs ++ [_]).map Rule.mark = _
        rw [List.map_append, j1, take_snoc hm]; rfl
      · intro x hx
        rcases List.mem_append.mp hx with z | z
        · exact j2 x z
        · rw [List.mem_singleton.mp z]
          exact ⟨by show ws.length ≤ 2; omega, q2⟩
  · rintro ⟨rs, k1⟩ ⟨⟨(j1 : rs.map Rule.mark = (rows.map Row.mark).take (rows.map rRow).length), (j2 : ∀ r ∈ rs, RuleOk r)⟩, (j3 : 0 ≤ k1)⟩
    dsimp only
    walk_at "g"
    refine k_frzKT ?_
    refine k_fin hR (rs, k1) ⟨⟨?_, j2⟩, j3⟩ (fun _ h => h)
    rw [j1, List.length_map, ← List.length_map (f := Row.mark), List.take_length]

end


/-! _law_free_rules -/
def ct__law_free_rules : Ct where
  δ := List Row
  ε := List Rule
  ok d := (d.map Row.mark).Nodup ∧ d.length ≤ 100
  pre d := [rLs (d.map rRow)]
  own _ := []
  post d e := RulesOk (d.map Row.mark) e
  ret _ e := rDk (rulesKV e)
  out _ _ := []
section
variable {P : Program} {w : World} {K : PySem.W.Frag} {mg : Str → Option Value} {base : Heap}
set_option maxHeartbeats 4000000 in
theorem ok__law_free_rules (T : Txt K mg)  : Cal P w K mg base 1 "_law_free_rules" (Fn ct__law_free_rules) [] := by
  haveI : FldI K (He.ga K "Shape") "_listed" := ⟨T.c_Shape, T.n_Shape__listed⟩
  haveI : FldI K (He.ga K "Shape") "_marks" := ⟨T.c_Shape, T.n_Shape__marks⟩
  haveI : FldI K (He.ga K "Web") "shape" := ⟨T.c_Web, T.n_Web_shape⟩
  haveI : FldI K (He.ga K "Web") "_rows" := ⟨T.c_Web, T.n_Web__rows⟩
  haveI : FldI K (He.ga K "Web") "_numbers" := ⟨T.c_Web, T.n_Web__numbers⟩
  haveI : FldI K (He.ga K "Standing") "web" := ⟨T.c_Standing, T.n_Standing_web⟩
  haveI : FldI K (He.ga K "Standing") "_modes" := ⟨T.c_Standing, T.n_Standing__modes⟩
  haveI : FldI K (He.ga K "Standing") "_holds" := ⟨T.c_Standing, T.n_Standing__holds⟩
  haveI : FldI K (He.ga K "Standing") "_loose" := ⟨T.c_Standing, T.n_Standing__loose⟩
  haveI : FldI K (He.ga K "Weaving") "web" := ⟨T.c_Weaving, T.n_Weaving_web⟩
  haveI : FldI K (He.ga K "Weaving") "_events" := ⟨T.c_Weaving, T.n_Weaving__events⟩
  haveI : FldI K (He.ga K "Weaving") "_standings" := ⟨T.c_Weaving, T.n_Weaving__standings⟩
  haveI : FldI K (He.ga K "Weaving") "_lockers" := ⟨T.c_Weaving, T.n_Weaving__lockers⟩
  haveI : FldI K (He.ga K "Weaving") "_edges" := ⟨T.c_Weaving, T.n_Weaving__edges⟩
  haveI := T.v_Shape_MARKS
  haveI := T.v_Shape_PARENTS
  haveI := T.v_Web_MOST
  haveI := T.i_DEEDS
  haveI := T.i_MODES
  refine calD T.f__law_free_rules T.g__law_free_rules sc__law_free_rules (fun _ _ _ _ _ _ us hl => match us, hl with | [_], _ => rfl) (fun _ => rfl) (fun cdv A outer s H E hr => ?_)
  have hu := hu_of hr
  have hu64 := hu64_of hr
  have hu65 := hu65_of hr
  refine ⟨_, (pss_cons (ps_set (i := 1) sc__law_free_rules.nd rfl (by first | exact Or.inl rfl | exact Or.inr rfl) pe_dnewK)
    (pss_cons (ps_for PassesOwn.never rfl (piL K (pv 0)) (pg_name (i := 2) sc__law_free_rules.nd rfl (by first | exact Or.inl rfl | exact Or.inr rfl))
    (pss_one (ps_dput hu (pv 1) (pe_ix (ixU K) (pv 2) pe_int (fun _ _ => rfl)) (pe_lst (pa_cons pe_bl (pa_cons (pe_lst (pa_cons (pe_lst (pa_cons pe_int (pa_cons pe_int (pa_cons pe_int (pa_cons pe_bl pa_nil))))) pa_nil)) pa_nil))) rfl)))
    (pss_one (ps_ret (pv 1))))), ?_⟩
  rintro (rows : List Row) L g fr Q ⟨(h1 : (rows.map Row.mark).Nodup), (h2 : rows.length ≤ 100)⟩ hR
  show Gk L [some (rLs (rows.map rRow)), none, none] [g] fr _
  walk_at "g"
  rename_i p
  refine k_forL (T := List Rule) (fun i s => s.map Rule.mark = (rows.map Row.mark).take i ∧ ∀ r ∈ s, RuleOk r) (fun _ => [some (rLs (rows.map rRow)), some (rA p), none]) (fun s => oDk p (rulesKV s) :: fr) [] ⟨rfl, by simp⟩ (by walk_at "le") rfl ?_ ?_
  · rintro i q gh rs N hq ⟨(j1 : rs.map Rule.mark = (rows.map Row.mark).take i), (j2 : ∀ r ∈ rs, RuleOk r)⟩ hN
    obtain ⟨r, hr, rfl⟩ := map_get hq
    have hi := (List.getElem?_eq_some_iff.mp hr).1
    have hm : (rows.map Row.mark)[i]? = some r.mark := by rw [List.getElem?_map, hr]; rfl
    have hl : (rulesKV rs).length ≤ 10000 := by
      have e := congrArg List.length j1
      rw [List.length_map, List.length_take, List.length_map] at e
      unfold rulesKV; rw [List.length_map]; omega
    walk_at "g"
    refine k_le (by walk_at "le") ?_ (hN (rs ++ [⟨r.mark, true, [⟨0, 0, 0, false⟩]⟩]) ⟨?_, ?_⟩)
    · exact congrArg (fun l => oDk p l :: fr) (rulesKV_put (r := ⟨r.mark, true, [⟨0, 0, 0, false⟩]⟩) (by rw [j1]; exact nodup_take h1 hm))
    · rw [List.map_append, j1, take_snoc hm]; rfl
    · intro x hx
      rcases List.mem_append.mp hx with z | z
      · exact j2 x z
      · rw [List.mem_singleton.mp z]
        exact ⟨(by show 1 ≤ 2; decide), fun w hw => by rw [List.mem_singleton.mp hw]; unfold WayOk; decide⟩
  · rintro rs ⟨(j1 : rs.map Rule.mark = (rows.map Row.mark).take (rows.map rRow).length), (j2 : ∀ r ∈ rs, RuleOk r)⟩
    walk_at "g"
    refine k_frzKT ?_
    refine k_fin hR rs ⟨?_, j2⟩ (fun _ h => h)
    rw [j1, List.length_map, ← List.length_map (f := Row.mark), List.take_length]

end


/-! _law_things -/
def ct__law_things : Ct where
  δ := List Int × Addr × Int × List Str × List Row × Int
  ε := List Thing × Int
  ok d := 0 ≤ d.2.2.1 ∧ d.1.length ≤ 10000 ∧ RowsOk d.2.2.2.1 d.2.2.2.2.1 ∧ (0 < d.2.2.2.2.1.length ∧ d.2.2.2.2.1.length ≤ 100) ∧ 0 ≤ d.2.2.2.2.2 ∧ d.2.2.2.2.2 ≤ 100
  pre d := [rLs (d.1.map G.rI), rA d.2.1, rLs (d.2.2.2.2.1.map rRow), G.rI d.2.2.2.2.2]
  own d := [oLs d.2.1 [G.rI d.2.2.1]]
  post d e := (e.1.length = d.2.2.2.2.2 ∧ ThingsOk d.2.2.2.2.1 e.1) ∧ 0 ≤ e.2
  ret _ e := rLs (e.1.map rThing)
  out d e := [oLs d.2.1 [G.rI e.2]]
section
variable {P : Program} {w : World} {K : PySem.W.Frag} {mg : Str → Option Value} {base : Heap}
set_option maxHeartbeats 4000000 in
theorem ok__law_things (T : Txt K mg) (C__law_take : Cal P w K mg base 1 "_law_take" (Fn ct__law_take) []) : Cal P w K mg base 2 "_law_things" (Fn ct__law_things) [] := by
  haveI : FldI K (He.ga K "Shape") "_listed" := ⟨T.c_Shape, T.n_Shape__listed⟩
  haveI : FldI K (He.ga K "Shape") "_marks" := ⟨T.c_Shape, T.n_Shape__marks⟩
  haveI : FldI K (He.ga K "Web") "shape" := ⟨T.c_Web, T.n_Web_shape⟩
  haveI : FldI K (He.ga K "Web") "_rows" := ⟨T.c_Web, T.n_Web__rows⟩
  haveI : FldI K (He.ga K "Web") "_numbers" := ⟨T.c_Web, T.n_Web__numbers⟩
  haveI : FldI K (He.ga K "Standing") "web" := ⟨T.c_Standing, T.n_Standing_web⟩
  haveI : FldI K (He.ga K "Standing") "_modes" := ⟨T.c_Standing, T.n_Standing__modes⟩
  haveI : FldI K (He.ga K "Standing") "_holds" := ⟨T.c_Standing, T.n_Standing__holds⟩
  haveI : FldI K (He.ga K "Standing") "_loose" := ⟨T.c_Standing, T.n_Standing__loose⟩
  haveI : FldI K (He.ga K "Weaving") "web" := ⟨T.c_Weaving, T.n_Weaving_web⟩
  haveI : FldI K (He.ga K "Weaving") "_events" := ⟨T.c_Weaving, T.n_Weaving__events⟩
  haveI : FldI K (He.ga K "Weaving") "_standings" := ⟨T.c_Weaving, T.n_Weaving__standings⟩
  haveI : FldI K (He.ga K "Weaving") "_lockers" := ⟨T.c_Weaving, T.n_Weaving__lockers⟩
  haveI : FldI K (He.ga K "Weaving") "_edges" := ⟨T.c_Weaving, T.n_Weaving__edges⟩
  haveI := T.v_Shape_MARKS
  haveI := T.v_Shape_PARENTS
  haveI := T.v_Web_MOST
  haveI := T.i_DEEDS
  haveI := T.i_MODES
  refine calD T.f__law_things T.g__law_things sc__law_things (fun _ _ _ _ _ _ us hl => match us, hl with | [_, _, _, _], _ => rfl) (fun _ => rfl) (fun cdv A outer s H E hr => ?_)
  have hu := hu_of hr
  have hu64 := hu64_of hr
  have hu65 := hu65_of hr
  refine ⟨_, (pss_cons (ps_set (i := 4) sc__law_things.nd rfl (by first | exact Or.inl rfl | exact Or.inr rfl) (pe_lst pa_nil))
    (pss_cons (ps_for PassesOwn.never rfl (pi_range1 (by rfl) T.z_range (pa_cons (pv 3) pa_nil)) (pg_name (i := 5) sc__law_things.nd rfl (by first | exact Or.inl rfl | exact Or.inr rfl))
    (pss_cons (ps_set (i := 6) sc__law_things.nd rfl (by first | exact Or.inl rfl | exact Or.inr rfl) (pe_ix (ixU K) (pv 2) (pe_c C__law_take hr (by decide) (by rfl) (pa_cons (pv 0) (pa_cons (pv 1) (pa_cons (pe_callB (lenU K) (by rfl) T.z_len PySem.boot_len (pa_cons (pv 2) pa_nil)) pa_nil)))) (fun _ _ => rfl)))
    (pss_cons (ps_setLc (i := 7) (own := [("_law_j", 10)]) rfl sc__law_things.nd rfl rfl (sw_true rfl rfl rfl (by decide +kernel)) (pi_range3 (by rfl) T.z_range (pa_cons (pe_op op_sub (pe_callB (lenU K) (by rfl) T.z_len PySem.boot_len (pa_cons (pv 4) pa_nil)) pe_int) (pa_cons (pe_un un_neg pe_int) (pa_cons (pe_un un_neg pe_int) pa_nil)))) (blkOk_by (own := [("_law_j", 10)]) (N := N__law_things) (sc := (defScope s__law_things)) (by decide +kernel)) (fun _ _ _ _ _ => (pg_name (i := 10) sc__law_things.nd rfl (by first | exact Or.inl rfl | exact Or.inr rfl))) (fun _ _ _ _ _ => pts_one (pt_cmpR (inU K hu65) (pe_ix (ixU K) (pe_ix (ixU K) (pv 4) (pv 10) (fun _ _ => rfl)) pe_int (fun _ _ => rfl)) (pe_ix (ixU K) (pv 6) pe_int (fun _ _ => rfl)) rfl)) (fun _ _ _ _ _ => (pv 10)))
    (pss_cons (ps_if (pt_cmpR op_lt (pe_callB (lenU K) (by rfl) T.z_len PySem.boot_len (pa_cons (pv 7) pa_nil)) (pe_ix (ixU K) (pv 6) pe_int (fun _ _ => rfl)) (nomark _)) (pss_cons (ps_set (i := 6) sc__law_things.nd rfl (by first | exact Or.inl rfl | exact Or.inr rfl) (pe_ix (ixU K) (pv 2) pe_int (fun _ _ => rfl)))
    (pss_one (ps_setLc (i := 7) (own := [("_law_j", 10)]) rfl sc__law_things.nd rfl rfl (sw_true rfl rfl rfl (by decide +kernel)) (pi_range3 (by rfl) T.z_range (pa_cons (pe_op op_sub (pe_callB (lenU K) (by rfl) T.z_len PySem.boot_len (pa_cons (pv 4) pa_nil)) pe_int) (pa_cons (pe_un un_neg pe_int) (pa_cons (pe_un un_neg pe_int) pa_nil)))) (blkOk_by (own := [("_law_j", 10)]) (N := N__law_things) (sc := (defScope s__law_things)) (by decide +kernel)) (fun _ _ _ _ _ => (pg_name (i := 10) sc__law_things.nd rfl (by first | exact Or.inl rfl | exact Or.inr rfl))) (fun _ _ _ _ _ => pts_one (pt_cmpR (inU K hu65) (pe_ix (ixU K) (pe_ix (ixU K) (pv 4) (pv 10) (fun _ _ => rfl)) pe_int (fun _ _ => rfl)) (pe_ix (ixU K) (pv 6) pe_int (fun _ _ => rfl)) rfl)) (fun _ _ _ _ _ => (pv 10))))) pss_nil)
    (pss_cons (ps_set (i := 8) sc__law_things.nd rfl (by first | exact Or.inl rfl | exact Or.inr rfl) (pe_ix (ixU K) (pv 6) pe_int (fun _ _ => rfl)))
    (pss_cons (ps_if (pt_cmpR op_gt (pv 8) (pe_callB (lenU K) (by rfl) T.z_len PySem.boot_len (pa_cons (pv 7) pa_nil)) (nomark _)) (pss_one (ps_set (i := 8) sc__law_things.nd rfl (by first | exact Or.inl rfl | exact Or.inr rfl) (pe_callB (lenU K) (by rfl) T.z_len PySem.boot_len (pa_cons (pv 7) pa_nil)))) pss_nil)
    (pss_cons (ps_set (i := 8) sc__law_things.nd rfl (by first | exact Or.inl rfl | exact Or.inr rfl) (pe_op op_sub (pv 8) (pe_c C__law_take hr (by decide) (by rfl) (pa_cons (pv 0) (pa_cons (pv 1) (pa_cons (pe_op op_plus (pe_op op_sub (pv 8) (pe_ix (ixU K) (pv 6) pe_int (fun _ _ => rfl))) pe_int) pa_nil))))))
    (pss_cons (ps_set (i := 9) sc__law_things.nd rfl (by first | exact Or.inl rfl | exact Or.inr rfl) (pe_lst pa_nil))
    (pss_cons (ps_for PassesOwn.never rfl (pi_range1 (by rfl) T.z_range (pa_cons (pv 8) pa_nil)) (pg_name (i := 10) sc__law_things.nd rfl (by first | exact Or.inl rfl | exact Or.inr rfl))
    (pss_one (ps_expr (pe_bm PySem.F.plainAttrs_list PySem.F.slot_list_append PySem.F.type_list_append mt_append (pv 9) (pa_cons (pe_bm PySem.F.plainAttrs_list PySem.F.slot_list_pop PySem.F.type_list_pop mt_popAt (pv 7) (pa_cons (pe_c C__law_take hr (by decide) (by rfl) (pa_cons (pv 0) (pa_cons (pv 1) (pa_cons (pe_callB (lenU K) (by rfl) T.z_len PySem.boot_len (pa_cons (pv 7) pa_nil)) pa_nil)))) pa_nil)) pa_nil)))))
    (pss_one (ps_expr (pe_bm PySem.F.plainAttrs_list PySem.F.slot_list_append PySem.F.type_list_append mt_append (pv 4) (pa_cons (pe_lst (pa_cons (pe_ix (ixU K) (pv 6) pe_int (fun _ _ => rfl)) (pa_cons (pv 9) (pa_cons (pe_ix (ixU K) (pv 6) pe_int (fun _ _ => rfl)) pa_nil)))) pa_nil)))))))))))))
    (pss_one (ps_ret (pv 4))))), ?_⟩
  rintro ⟨ds, a, k, ms, rows, n⟩ L g fr Q ⟨h1, h2, h3, h4, h5, h6⟩ hR
  dsimp only at h1 h2 h3 h4 h5 h6
  show Gk L [some (rLs (ds.map G.rI)), some (rA a), some (rLs (rows.map rRow)), some (G.rI n), none, none, none, none, none, none, none] [g] (oLs a [G.rI k] :: fr) _
  walk_at "g"
  rename_i p
  refine ga_front 1 rfl ?_
  dsimp only [List.eraseIdx]
  refine k_forRn (T := List Thing × Int) (fun i s => (s.1.length = i ∧ ThingsOk rows s.1) ∧ 0 ≤ s.2) (fun _ => [some (rLs (ds.map G.rI)), some (rA a), some (rLs (rows.map rRow)), some (G.rI n), some (rA p), none, none, none, none, none, none]) (fun s => oLs a [G.rI s.2] :: oLs p (s.1.map rThing) :: fr) ([], k) ?z ⟨⟨rfl, fun k r e => by simp at e⟩, h1⟩ (by walk_at "le") rfl ?_ ?_
  case z => omega
  · rintro i ⟨ts, k1⟩ N hi ⟨⟨(j1 : ts.length = i), (j2 : ThingsOk rows ts)⟩, (j3 : 0 ≤ k1)⟩ hN
    dsimp only at hN ⊢
    walk_at "g"
    refine k_callF (c := ct__law_take) (ds, a, k1, (rows.length : Int)) rfl rfl ⟨(by omega : 0 < (rows.length : Int)), j3, h2⟩ ?_
    rintro (z : Int) ⟨(z1 : 0 ≤ z), (z2 : z < rows.length)⟩
    conv => arg 3; dsimp only [ct__law_take]
    conv => arg 4; dsimp only [ct__law_take, List.cons_append, List.nil_append, List.eraseIdx]
    walk_at "g"
    have hrow : rows.getD z.toNat default ∈ rows := getD_mem (by omega)
    have hrow0 : rows.getD 0 default ∈ rows := getD_mem (by omega)
    have hleast0 : (rows.getD 0 default).least = 0 := by
      rcases h3.grow 0 (rows.getD 0 default) (by rw [List.getD_eq_getElem?_getD, List.getElem?_eq_getElem (by omega)]; rfl) with q | ⟨m, _, q⟩
      · exact q
      · simp at q
    generalize rows.getD z.toNat default = row at hrow
    refine k_lcR3 (w := ⟨rfl⟩) (y := (ts.length : Int) - 1) (z := -1) (by omega) (fun j => decide ((ts.getD j.toNat default).mark ∈ row.parents)) G.rI (fun x => [some (rLs (ds.map G.rI)), some (rA a), some (rLs (rows.map rRow)), some (G.rI n), some (rA p), some (G.rI (0 + (i : Int))), some (rRow row), none, none, none, some (G.rI x)]) (fun x => gok_nm rfl (by decide)) (fun x hx gx D acc K2 h => ?_) (fun x hx hp gx D acc K' h => ?_) (fun D => ?_)
    · walk_at "g"
      exact h
    · walk_at "g"
      exact h
    · refine Eq.mp (congrArg (fun l => Gk L _ _ (oLs D (l.map G.rI) :: oLs a [G.rI (k1 + 1)] :: oLs p (ts.map rThing) :: fr) _) (show ableOf ts row = _ from rfl)) ?_
      walk_at "g0"
      refine k_cut (T := Row × Addr) (fun s => s.1 ∈ rows ∧ s.1.least ≤ (ableOf ts s.1).length) (fun s => [some (rLs (ds.map G.rI)), some (rA a), some (rLs (rows.map rRow)), some (G.rI n), some (rA p), some (G.rI (0 + (i : Int))), some (rRow s.1), some (rA s.2), none, none, none]) (fun s => oLs s.2 ((ableOf ts s.1).map G.rI) :: oLs a [G.rI (k1 + 1)] :: oLs p (ts.map rThing) :: fr) ?_ (fun c => ?_)
      · clear hrow hrow0 hleast0
        clear row D
        rintro ⟨row, D⟩ ⟨(hrow : row ∈ rows), (hleast : row.least ≤ (ableOf ts row).length)⟩
        dsimp only
        obtain ⟨n1, n2, n3, n4, n5⟩ := h3.num row hrow
        have hal := ableOf_len (ts := ts) (r := row)
        walk_at "g0"
        refine k_cut (T := Int) (fun s => row.least ≤ s ∧ s ≤ row.most ∧ s ≤ (ableOf ts row).length) (fun s => [some (rLs (ds.map G.rI)), some (rA a), some (rLs (rows.map rRow)), some (G.rI n), some (rA p), some (G.rI (0 + (i : Int))), some (rRow row), some (rA D), some (G.rI s), none, none]) (fun s => oLs D ((ableOf ts row).map G.rI) :: oLs a [G.rI (k1 + 1)] :: oLs p (ts.map rThing) :: fr) ?_ (fun c => ?_)
        · rintro sz ⟨s1, s2, s3⟩
          refine k_front 1 rfl ?_
          conv => arg 4; dsimp only [List.eraseIdx]
          walk_at "g"
          refine k_callF (c := ct__law_take) (ds, a, k1 + 1, sz - row.least + 1) rfl rfl ⟨(by omega : 0 < sz - row.least + 1), (by omega : 0 ≤ k1 + 1), h2⟩ ?_
          rintro (y : Int) ⟨(y1 : 0 ≤ y), (y2 : y < sz - row.least + 1)⟩
          conv => arg 3; dsimp only [ct__law_take]
          conv => arg 4; dsimp only [ct__law_take, List.cons_append, List.nil_append, List.eraseIdx]
          walk_at "g"
          rename_i p2
          refine ga_front 1 rfl ?_
          dsimp only [List.eraseIdx]
          generalize hsz : sz - y = z at *
          have hz1 : row.least ≤ z := by omega
          have hz2 : z ≤ row.most := by omega
          have hz3 : z ≤ (ableOf ts row).length := by omega
          refine k_forRn (T := List Int × List Int × Int) (fun i s => s.1.length = i ∧ (s.1 ++ s.2.1).Perm (ableOf ts row) ∧ 0 ≤ s.2.2) (fun _ => [some (rLs (ds.map G.rI)), some (rA a), some (rLs (rows.map rRow)), some (G.rI n), some (rA p), some (G.rI (0 + (i : Int))), some (rRow row), some (rA D), some (G.rI z), some (rA p2), none]) (fun s => oLs a [G.rI s.2.2] :: oLs p2 (s.1.map G.rI) :: oLs D (s.2.1.map G.rI) :: oLs p (ts.map rThing) :: fr) ([], ableOf ts row, k1 + 1 + 1) ?z ⟨rfl, .refl _, by show 0 ≤ k1 + 1 + 1; omega⟩ (by walk_at "le") rfl ?_ ?_
          case z => omega
          · rintro j ⟨cs, ab, k2⟩ N2 hj ⟨(q1 : cs.length = j), (q2 : (cs ++ ab).Perm (ableOf ts row)), (q3 : 0 ≤ k2)⟩ hN2
            dsimp only at hN2 ⊢
            have hab := q2.length_eq
            rw [List.length_append] at hab
            walk_at "g"
            refine k_callF (c := ct__law_take) (ds, a, k2, (ab.length : Int)) rfl rfl ⟨(by omega : 0 < (ab.length : Int)), q3, h2⟩ ?_
            rintro (x : Int) ⟨(x1 : 0 ≤ x), (x2 : x < ab.length)⟩
            conv => arg 3; dsimp only [ct__law_take]
            conv => arg 4; dsimp only [ct__law_take, List.cons_append, List.nil_append, List.eraseIdx]
            walk_at "g"
            refine k_popM ⟨x1, x2, by omega⟩ ?_
            have hcl : cs.length ≤ 10000 := by omega
            walk_at "g"
            refine k_le (by walk_at "le") rfl (hN2 (cs ++ [ab.getD x.toNat default], ab.eraseIdx x.toNat, k2 + 1) ?_)
            exact ⟨by simp [q1], (perm_erase (by omega)).trans q2, (by omega : 0 ≤ k2 + 1)⟩
          · rintro ⟨cs, ab, k2⟩ ⟨(q1 : cs.length = z.toNat), (q2 : (cs ++ ab).Perm (ableOf ts row)), (q3 : 0 ≤ k2)⟩
            dsimp only
            refine n_frzS 9 ?_
            walk_at "g"
            refine n_forget 1 ?_
            refine k_le (by walk_at "le") ?_ (hN (ts ++ [⟨row.mark, cs, row.shared⟩], k2) ⟨⟨by simp [j1], j2.snoc ?_⟩, q3⟩)
            · dsimp only; rw [List.map_append]; rfl
            · have hsub : ∀ x ∈ cs, x ∈ ableOf ts row := fun x hx => q2.subset (List.mem_append_left _ hx)
              have hnd : (cs ++ ab).Nodup := q2.nodup_iff.mpr ableOf_nodup
              exact ⟨⟨row, hrow, rfl, rfl, (by show row.least ≤ (cs.length : Int) ∧ (cs.length : Int) ≤ row.most; omega), fun x hx => ableOf_mem (hsub x hx)⟩, (List.nodup_append.mp hnd).1⟩
        · refine k_ifD (fun hl => ?_) (fun hl => ?_)
          · walk_at "gb"
            refine k_le (by walk_at "le") rfl (c _ ?_)
            exact ⟨by omega, by omega, by omega⟩
          · walk_at "gb"
            refine k_le (by walk_at "le") rfl (c _ ?_)
            exact ⟨by omega, by omega, by omega⟩
      · refine k_ifD (fun hl => ?_) (fun hl => ?_)
        · walk_at "g0"
          refine k_lcR3 (w := ⟨rfl⟩) (y := (ts.length : Int) - 1) (z := -1) (by omega) (fun j => decide ((ts.getD j.toNat default).mark ∈ (rows.getD 0 default).parents)) G.rI (fun x => [some (rLs (ds.map G.rI)), some (rA a), some (rLs (rows.map rRow)), some (G.rI n), some (rA p), some (G.rI (0 + (i : Int))), some (rRow (rows.getD 0 default)), some (rA D), none, none, some (G.rI x)]) (fun x => gok_nm rfl (by decide)) (fun x hx gx D acc K2 h => ?_) (fun x hx hp gx D acc K' h => ?_) (fun D => ?_)
          · walk_at "g0"
            exact h
          · walk_at "g"
            exact h
          · walk_at "gb"
            refine n_forget 1 ?_
            refine k_le (by walk_at "le") rfl (c (rows.getD 0 default, _) ?_)
            exact ⟨hrow0, by show (rows.getD 0 default).least ≤ ((ableOf ts (rows.getD 0 default)).length : Int); omega⟩
        · walk_at "gb"
          refine k_le (by walk_at "le") rfl (c (row, D) ?_)
          exact ⟨hrow, by show row.least ≤ ((ableOf ts row).length : Int); omega⟩
  · rintro ⟨ts, k1⟩ ⟨⟨(j1 : ts.length = n.toNat), (j2 : ThingsOk rows ts)⟩, (j3 : 0 ≤ k1)⟩
    dsimp only
    walk_at "g"
    refine n_frzT ?_
    refine k_fin hR (ts, k1) ⟨⟨?_, j2⟩, j3⟩ (fun _ h => h)
    show (ts.length : Int) = n
    omega

end


/-! _law_number -/
def ct__law_number : Ct where
  δ := Int × Int
  ε := Int
  ok d := (0 ≤ d.1 ∧ d.1 ≤ 3) ∧ 0 ≤ d.2 ∧ d.2 < 1000000
  pre d := [G.rI d.1, G.rI d.2]
  own _ := []
  post d e := e = numF d.1 d.2
  ret _ e := G.rI e
  out _ _ := []
section
variable {P : Program} {w : World} {K : PySem.W.Frag} {mg : Str → Option Value} {base : Heap}
set_option maxHeartbeats 4000000 in
theorem ok__law_number (T : Txt K mg)  : Cal P w K mg base 1 "_law_number" (Fn ct__law_number) [] := by
  haveI : FldI K (He.ga K "Shape") "_listed" := ⟨T.c_Shape, T.n_Shape__listed⟩
  haveI : FldI K (He.ga K "Shape") "_marks" := ⟨T.c_Shape, T.n_Shape__marks⟩
  haveI : FldI K (He.ga K "Web") "shape" := ⟨T.c_Web, T.n_Web_shape⟩
  haveI : FldI K (He.ga K "Web") "_rows" := ⟨T.c_Web, T.n_Web__rows⟩
  haveI : FldI K (He.ga K "Web") "_numbers" := ⟨T.c_Web, T.n_Web__numbers⟩
  haveI : FldI K (He.ga K "Standing") "web" := ⟨T.c_Standing, T.n_Standing_web⟩
  haveI : FldI K (He.ga K "Standing") "_modes" := ⟨T.c_Standing, T.n_Standing__modes⟩
  haveI : FldI K (He.ga K "Standing") "_holds" := ⟨T.c_Standing, T.n_Standing__holds⟩
  haveI : FldI K (He.ga K "Standing") "_loose" := ⟨T.c_Standing, T.n_Standing__loose⟩
  haveI : FldI K (He.ga K "Weaving") "web" := ⟨T.c_Weaving, T.n_Weaving_web⟩
  haveI : FldI K (He.ga K "Weaving") "_events" := ⟨T.c_Weaving, T.n_Weaving__events⟩
  haveI : FldI K (He.ga K "Weaving") "_standings" := ⟨T.c_Weaving, T.n_Weaving__standings⟩
  haveI : FldI K (He.ga K "Weaving") "_lockers" := ⟨T.c_Weaving, T.n_Weaving__lockers⟩
  haveI : FldI K (He.ga K "Weaving") "_edges" := ⟨T.c_Weaving, T.n_Weaving__edges⟩
  haveI := T.v_Shape_MARKS
  haveI := T.v_Shape_PARENTS
  haveI := T.v_Web_MOST
  haveI := T.i_DEEDS
  haveI := T.i_MODES
  refine calD T.f__law_number T.g__law_number sc__law_number (fun _ _ _ _ _ _ us hl => match us, hl with | [_, _], _ => rfl) (fun _ => rfl) (fun cdv A outer s H E hr => ?_)
  have hu := hu_of hr
  have hu64 := hu64_of hr
  have hu65 := hu65_of hr
  refine ⟨_, (pss_cons (ps_if (pt_cmpR (eqU K hu64) (pv 0) pe_int (nomark _)) (pss_one (ps_ret (pe_op op_plus (pe_op op_fdiv (pv 1) pe_int) pe_int))) pss_nil)
    (pss_cons (ps_if (PW.pt (pw_and (pt_cmpR (eqU K hu64) (pv 0) pe_int (nomark _)) (pw_and1 (pt_cmpR op_gt (pv 1) pe_int (nomark _))))) (pss_one (ps_ret (pv 1))) pss_nil)
    (pss_one (ps_ret (pe_ix (ixU K) (pe_lst (pa_cons pe_int (pa_cons pe_int (pa_cons pe_int (pa_cons pe_int pa_nil))))) (pv 0) (fun _ _ => rfl)))))), ?_⟩
  rintro ⟨r, n⟩ L g fr Q ⟨⟨h1, h2⟩, h3, h4⟩ hR
  dsimp only at h1 h2 h3 h4
  show Gk L [some (G.rI r), some (G.rI n)] [g] fr _
  walk_at "g"
  all_goals try refine k_ixLm (t := G.rI) (xs := [0, 1, 1, 1]) ⟨h1, by show r < 4; omega⟩ ?_
  all_goals refine k_fin hR _ ?_ (fun _ h => h)
  all_goals show _ = numF r n
  all_goals unfold numF
  all_goals simp_all
  all_goals omega

end


/-! _law_lets -/
structure LetsD where
  ms : List Str
  rows : List Row
  rules : List Rule
  things : List Thing
  st : Addr
  vals : List Int
  thing : Int
structure LetsOk (d : LetsD) : Prop where
  rows : RowsOk d.ms d.rows
  rules : RulesOk d.ms d.rules
  things : ThingsOk d.rows d.things
  len : d.vals.length = d.things.length ∧ d.things.length ≤ 100
  thing : 0 ≤ d.thing ∧ d.thing < d.things.length
def ct__law_lets : Ct where
  δ := LetsD
  ε := Bool
  ok := LetsOk
  pre d := [rDk (rulesKV d.rules), rLs (d.things.map rThing), rA d.st, G.rI d.thing]
  own d := [oLs d.st (d.vals.map G.rI)]
  post _ _ := True
  ret _ e := rB e
  out d _ := [oLs d.st (d.vals.map G.rI)]
section
variable {P : Program} {w : World} {K : PySem.W.Frag} {mg : Str → Option Value} {base : Heap}
set_option maxHeartbeats 4000000 in
theorem ok__law_lets (T : Txt K mg) (C__law_number : Cal P w K mg base 1 "_law_number" (Fn ct__law_number) []) : Cal P w K mg base 2 "_law_lets" (Fn ct__law_lets) [] := by
  haveI : FldI K (He.ga K "Shape") "_listed" := ⟨T.c_Shape, T.n_Shape__listed⟩
  haveI : FldI K (He.ga K "Shape") "_marks" := ⟨T.c_Shape, T.n_Shape__marks⟩
  haveI : FldI K (He.ga K "Web") "shape" := ⟨T.c_Web, T.n_Web_shape⟩
  haveI : FldI K (He.ga K "Web") "_rows" := ⟨T.c_Web, T.n_Web__rows⟩
  haveI : FldI K (He.ga K "Web") "_numbers" := ⟨T.c_Web, T.n_Web__numbers⟩
  haveI : FldI K (He.ga K "Standing") "web" := ⟨T.c_Standing, T.n_Standing_web⟩
  haveI : FldI K (He.ga K "Standing") "_modes" := ⟨T.c_Standing, T.n_Standing__modes⟩
  haveI : FldI K (He.ga K "Standing") "_holds" := ⟨T.c_Standing, T.n_Standing__holds⟩
  haveI : FldI K (He.ga K "Standing") "_loose" := ⟨T.c_Standing, T.n_Standing__loose⟩
  haveI : FldI K (He.ga K "Weaving") "web" := ⟨T.c_Weaving, T.n_Weaving_web⟩
  haveI : FldI K (He.ga K "Weaving") "_events" := ⟨T.c_Weaving, T.n_Weaving__events⟩
  haveI : FldI K (He.ga K "Weaving") "_standings" := ⟨T.c_Weaving, T.n_Weaving__standings⟩
  haveI : FldI K (He.ga K "Weaving") "_lockers" := ⟨T.c_Weaving, T.n_Weaving__lockers⟩
  haveI : FldI K (He.ga K "Weaving") "_edges" := ⟨T.c_Weaving, T.n_Weaving__edges⟩
  haveI := T.v_Shape_MARKS
  haveI := T.v_Shape_PARENTS
  haveI := T.v_Web_MOST
  haveI := T.i_DEEDS
  haveI := T.i_MODES
  refine calD T.f__law_lets T.g__law_lets sc__law_lets (fun _ _ _ _ _ _ us hl => match us, hl with | [_, _, _, _], _ => rfl) (fun _ => rfl) (fun cdv A outer s H E hr => ?_)
  have hu := hu_of hr
  have hu64 := hu64_of hr
  have hu65 := hu65_of hr
  refine ⟨_, (pss_cons (ps_set (i := 4) sc__law_lets.nd rfl (by first | exact Or.inl rfl | exact Or.inr rfl) (pe_dget hu (pv 0) (pe_ix (ixU K) (pe_ix (ixU K) (pv 1) (pv 3) (fun _ _ => rfl)) pe_int (fun _ _ => rfl)) (fun _ _ => rfl)))
    (pss_cons (ps_if (pt_cmpR (eqU K hu64) (pe_callB (lenU K) (by rfl) T.z_len PySem.boot_len (pa_cons (pe_lc (own := [("_law_x", 13)]) rfl sc__law_lets.nd (piL K (pv 2)) (blkOk_by (own := [("_law_x", 13)]) (N := N__law_lets) (sc := (defScope s__law_lets)) (by decide +kernel)) (fun _ _ _ _ _ => (pg_name (i := 13) sc__law_lets.nd rfl (by first | exact Or.inl rfl | exact Or.inr rfl))) (fun _ _ _ _ _ => pts_one (pt_cmpR op_gt (pv 13) pe_int (nomark _))) (fun _ _ _ _ _ => (pv 13))) pa_nil)) pe_int (nomark _)) (pss_one (ps_ret (pe_ix (ixU K) (pv 4) pe_int (fun _ _ => rfl)))) pss_nil)
    (pss_cons (ps_set (i := 5) sc__law_lets.nd rfl (by first | exact Or.inl rfl | exact Or.inr rfl) (pe_ix (ixU K) (pe_ix (ixU K) (pv 1) (pv 3) (fun _ _ => rfl)) pe_int (fun _ _ => rfl)))
    (pss_cons (ps_setLc (i := 6) (own := [("_law_x", 13)]) rfl sc__law_lets.nd rfl rfl (sw_true rfl rfl rfl (by decide +kernel)) (piL K (pv 5)) (blkOk_by (own := [("_law_x", 13)]) (N := N__law_lets) (sc := (defScope s__law_lets)) (by decide +kernel)) (fun _ _ _ _ _ => (pg_name (i := 13) sc__law_lets.nd rfl (by first | exact Or.inl rfl | exact Or.inr rfl))) (fun _ _ _ _ _ => pts_one (PW.pt (pw_or (pt_cmpR (eqU K hu64) (pe_ix (ixU K) (pv 2) (pv 13) (fun _ _ => rfl)) pe_int (nomark _)) (pw_or1 (pt_cmpR (eqU K hu64) (pe_ix (ixU K) (pv 2) (pv 13) (fun _ _ => rfl)) pe_int (nomark _)))))) (fun _ _ _ _ _ => (pv 13)))
    (pss_cons (ps_setLc (i := 7) (own := [("_law_x", 13)]) rfl sc__law_lets.nd rfl rfl (sw_true rfl rfl rfl (by decide +kernel)) (piL K (pv 5)) (blkOk_by (own := [("_law_x", 13)]) (N := N__law_lets) (sc := (defScope s__law_lets)) (by decide +kernel)) (fun _ _ _ _ _ => (pg_name (i := 13) sc__law_lets.nd rfl (by first | exact Or.inl rfl | exact Or.inr rfl))) (fun _ _ _ _ _ => pts_one (pt_cmpR (eqU K hu64) (pe_ix (ixU K) (pv 2) (pv 13) (fun _ _ => rfl)) pe_int (nomark _))) (fun _ _ _ _ _ => (pv 13)))
    (pss_cons (ps_setLc (i := 8) (own := [("_law_x", 13)]) rfl sc__law_lets.nd rfl rfl (sw_true rfl rfl rfl (by decide +kernel)) (piL K (pv 5)) (blkOk_by (own := [("_law_x", 13)]) (N := N__law_lets) (sc := (defScope s__law_lets)) (by decide +kernel)) (fun _ _ _ _ _ => (pg_name (i := 13) sc__law_lets.nd rfl (by first | exact Or.inl rfl | exact Or.inr rfl))) (fun _ _ _ _ _ => pts_one (pt_cmpR op_gt (pe_ix (ixU K) (pv 2) (pv 13) (fun _ _ => rfl)) pe_int (nomark _))) (fun _ _ _ _ _ => (pv 13)))
    (pss_cons (ps_set (i := 9) sc__law_lets.nd rfl (by first | exact Or.inl rfl | exact Or.inr rfl) (pe_lst (pa_cons (pe_callB (lenU K) (by rfl) T.z_len PySem.boot_len (pa_cons (pv 6) pa_nil)) (pa_cons (pe_callB (lenU K) (by rfl) T.z_len PySem.boot_len (pa_cons (pv 7) pa_nil)) (pa_cons (pe_callB (lenU K) (by rfl) T.z_len PySem.boot_len (pa_cons (pv 8) pa_nil)) pa_nil)))))
    (pss_cons (ps_set (i := 10) sc__law_lets.nd rfl (by first | exact Or.inl rfl | exact Or.inr rfl) (pe_cmpR op_gt (pe_callB (lenU K) (by rfl) T.z_len PySem.boot_len (pa_cons (pe_lc (own := [("_law_x", 13)]) rfl sc__law_lets.nd (piL K (pv 2)) (blkOk_by (own := [("_law_x", 13)]) (N := N__law_lets) (sc := (defScope s__law_lets)) (by decide +kernel)) (fun _ _ _ _ _ => (pg_name (i := 13) sc__law_lets.nd rfl (by first | exact Or.inl rfl | exact Or.inr rfl))) (fun _ _ _ _ _ => pts_one (pt_cmpR op_gt (pv 13) pe_int (nomark _))) (fun _ _ _ _ _ => (pv 13))) pa_nil)) pe_int (nomark _)))
    (pss_cons (ps_for PassesOwn.never rfl (piL K (pe_ix (ixU K) (pv 4) pe_int (fun _ _ => rfl))) (pg_name (i := 11) sc__law_lets.nd rfl (by first | exact Or.inl rfl | exact Or.inr rfl))
    (pss_cons (ps_setLc (i := 12) (own := [("_law_k", 14)]) rfl sc__law_lets.nd rfl rfl (sw_true rfl rfl rfl (by decide +kernel)) (pi_range1 (by rfl) T.z_range (pa_cons pe_int pa_nil)) (blkOk_by (own := [("_law_k", 14)]) (N := N__law_lets) (sc := (defScope s__law_lets)) (by decide +kernel)) (fun _ _ _ _ _ => (pg_name (i := 14) sc__law_lets.nd rfl (by first | exact Or.inl rfl | exact Or.inr rfl))) (fun _ _ _ _ _ => pts_one (pt_cmpR op_lt (pe_ix (ixU K) (pv 9) (pv 14) (fun _ _ => rfl)) (pe_c C__law_number hr (by decide) (by rfl) (pa_cons (pe_ix (ixU K) (pv 11) (pv 14) (fun _ _ => rfl)) (pa_cons (pe_callB (lenU K) (by rfl) T.z_len PySem.boot_len (pa_cons (pv 5) pa_nil)) pa_nil))) (nomark _))) (fun _ _ _ _ _ => (pv 14)))
    (pss_one (ps_if (PW.pt (pw_and (pt_cmpR (eqU K hu64) (pe_callB (lenU K) (by rfl) T.z_len PySem.boot_len (pa_cons (pv 12) pa_nil)) pe_int (nomark _)) (pw_and1 (pt_not (PW.pt (pw_and (pt_val (pe_ix (ixU K) (pv 11) pe_int (fun _ _ => rfl))) (pw_and1 (pt_val (pv 10))))))))) (pss_one (ps_ret pe_bl)) pss_nil))))
    (pss_one (ps_ret pe_bl))))))))))), ?_⟩
  rintro ⟨ms, rows, rules, ts, sa, vs, x⟩ L g fr Q ⟨o1, o2, o3, ⟨o4, o5⟩, o6, o7⟩ hR
  dsimp only at o1 o2 o3 o4 o5 o6 o7
  show Gk L [some (rDk (rulesKV rules)), some (rLs (ts.map rThing)), some (rA sa), some (G.rI x), none, none, none, none, none, none, none, none, none, none, none] [g] (oLs sa (vs.map G.rI) :: fr) _
  have hx : x.toNat < ts.length := by omega
  obtain ⟨rule, hrule, hok1, hok2⟩ := o2.get o1.nodup (o3.mark o1 hx)
  have hpar := o3.par hx
  have hpl := o1.parlen o3 hx
  walk_at "g"
  refine k_dget hrule ?_
  generalize hth : ts.getD x.toNat default = th at *
  walk_at "g"
  refine k_lcO (w := ⟨rfl⟩) (xs := vs) (t := G.rI) (fun y => decide (0 < y)) G.rI _  (by omega) (fun y => gok_nm rfl (by decide)) (fun y hy gx D acc K2 h => ?_) (fun y hy hp gx D acc K1 h => ?_) (fun D => ?_)
  · walk_at "cm"
    walk_at "g"
    exact h
  · walk_at "cm"
    walk_at "g"
    exact h
  refine n_frzT ?_
  walk_at "g"
  · refine k_fin hR rule.start trivial (fun _ h => h)
  rw [hth]
  have hpv : ∀ y ∈ th.parents, 0 ≤ y ∧ y < vs.length := fun y hy => by have := hpar y hy; omega
  refine k_lcL (w := ⟨rfl⟩) (xs := th.parents) (t := G.rI) (fun y => decide (vs.getD y.toNat default = 1) || decide (vs.getD y.toNat default = 2)) G.rI _  (by omega) (fun y => gok_nm rfl (by decide)) (fun y hy gx D acc K2 h => ?_) (fun y hy hp gx D acc K1 h => ?_) (fun D => ?_)
  · walk_at "cm"
    have hy2 := hpv y hy
    walk_at "g0"
    refine k_orJ (c := decide (vs.getD y.toNat default = 2)) (fun _ K' h => ?_) h
    walk_at "g"
    exact h
  · walk_at "cm"
    walk_at "g"
    exact h
  refine n_frzT ?_
  walk_at "g"
  refine k_lcL (w := ⟨rfl⟩) (xs := th.parents) (t := G.rI) (fun y => decide (vs.getD y.toNat default = 1)) G.rI _  (by omega) (fun y => gok_nm rfl (by decide)) (fun y hy gx D acc K2 h => ?_) (fun y hy hp gx D acc K1 h => ?_) (fun D => ?_)
  · walk_at "cm"
    have hy2 := hpv y hy
    walk_at "g0"
    exact h
  · walk_at "cm"
    walk_at "g"
    exact h
  refine n_frzT ?_
  walk_at "g"
  refine k_lcL (w := ⟨rfl⟩) (xs := th.parents) (t := G.rI) (fun y => decide (0 < vs.getD y.toNat default)) G.rI _  (by omega) (fun y => gok_nm rfl (by decide)) (fun y hy gx D acc K2 h => ?_) (fun y hy hp gx D acc K1 h => ?_) (fun D => ?_)
  · walk_at "cm"
    have hy2 := hpv y hy
    walk_at "g0"
    exact h
  · walk_at "cm"
    walk_at "g"
    exact h
  refine n_frzT ?_
  walk_at "g"
  refine k_lcO (w := ⟨rfl⟩) (xs := vs) (t := G.rI) (fun y => decide (2 < y)) G.rI _  (by omega) (fun y => gok_nm rfl (by decide)) (fun y hy gx D acc K2 h => ?_) (fun y hy hp gx D acc K1 h => ?_) (fun D => ?_)
  · walk_at "cm"
    walk_at "g"
    exact h
  · walk_at "cm"
    walk_at "g"
    exact h
  refine n_frzT ?_
  walk_at "g"
  generalize (th.parents.filter fun y => decide (vs.getD y.toNat default = 1) || decide (vs.getD y.toNat default = 2)) = l1
  generalize (th.parents.filter fun y => decide (vs.getD y.toNat default = 1)) = l2
  generalize (th.parents.filter fun y => decide (0 < vs.getD y.toNat default)) = l3
  generalize decide (0 < ((vs.filter fun y => decide (2 < y)).length : Int)) = lo
  refine k_forL (T := Unit) (fun _ _ => True) (fun _ => [some (rDk (rulesKV rules)), some (rLs (ts.map rThing)), some (rA sa), some (G.rI x), some (rRuleV rule), some (rLs (th.parents.map G.rI)), some (rLs (l1.map G.rI)), some (rLs (l2.map G.rI)), some (rLs (l3.map G.rI)), some (rLs [G.rI l1.length, G.rI l2.length, G.rI l3.length]), some (rB lo), none, none, none, none]) (fun _ => oLs sa (vs.map G.rI) :: fr) () trivial (by walk_at "le") rfl ?_ ?_
  · intro i q gh _ N hq _ hN
    obtain ⟨w, hw, rfl⟩ := map_get hq
    have hwo := hok2 w (List.mem_of_getElem? hw)
    walk_at "g"
    refine k_lcR (w := ⟨rfl⟩) (by decide) (fun k => decide (([(l1.length : Int), l2.length, l3.length]).getD k.toNat default < numF (wayN w k) th.parents.length)) G.rI _  (fun y => gok_nm rfl (by decide)) (fun y hy gx D acc K2 h => ?_) (fun y hy hp gx D acc K1 h => ?_) (fun D => ?_)
    · walk_at "cm"
      walk_at "g"
      refine k_ixLm (t := G.rI) (xs := [(l1.length : Int), l2.length, l3.length]) hy ?_
      walk_at "g"
      refine k_ixL (wayN_at hy) ?_
      walk_at "g"
      refine k_callF (c := ct__law_number) (wayN w y, (th.parents.length : Int)) rfl rfl ⟨wayN_ok hwo hy, by omega, by omega⟩ ?_
      rintro (e : Int) (he : e = numF (wayN w y) th.parents.length)
      conv => arg 3; dsimp only [ct__law_number]
      conv => arg 4; dsimp only [ct__law_number, List.cons_append, List.nil_append, List.eraseIdx]
      subst he
      walk_at "g"
      exact h
    · walk_at "cm"
      walk_at "g"
      exact h
    refine n_frzT ?_
    walk_at "g"
    all_goals first
      | (refine k_rtG ?_; refine k_fin hR true trivial (fun _ h => h))
      | refine k_le (by walk_at "le") rfl (hN () ?_)
        trivial
  · intro _ _
    walk_at "g"
    refine k_fin hR false trivial (fun _ h => h)

end


/-! _law_do -/
def ct__law_do : Ct where
  δ := Addr × List Int × Step
  ε := Unit
  ok d := (0 ≤ d.2.2.thing ∧ d.2.2.thing < d.2.1.length)
  pre d := [rA d.1, rStep d.2.2]
  own d := [oLs d.1 (d.2.1.map G.rI)]
  post _ _ := True
  ret _ _ := rN
  out d _ := [oLs d.1 ((d.2.1.set d.2.2.thing.toNat (doV (d.2.1.getD d.2.2.thing.toNat default) d.2.2.deed)).map G.rI)]
section
variable {P : Program} {w : World} {K : PySem.W.Frag} {mg : Str → Option Value} {base : Heap}
set_option maxHeartbeats 4000000 in
theorem ok__law_do (T : Txt K mg)  : Cal P w K mg base 1 "_law_do" (Fn ct__law_do) [] := by
  haveI : FldI K (He.ga K "Shape") "_listed" := ⟨T.c_Shape, T.n_Shape__listed⟩
  haveI : FldI K (He.ga K "Shape") "_marks" := ⟨T.c_Shape, T.n_Shape__marks⟩
  haveI : FldI K (He.ga K "Web") "shape" := ⟨T.c_Web, T.n_Web_shape⟩
  haveI : FldI K (He.ga K "Web") "_rows" := ⟨T.c_Web, T.n_Web__rows⟩
  haveI : FldI K (He.ga K "Web") "_numbers" := ⟨T.c_Web, T.n_Web__numbers⟩
  haveI : FldI K (He.ga K "Standing") "web" := ⟨T.c_Standing, T.n_Standing_web⟩
  haveI : FldI K (He.ga K "Standing") "_modes" := ⟨T.c_Standing, T.n_Standing__modes⟩
  haveI : FldI K (He.ga K "Standing") "_holds" := ⟨T.c_Standing, T.n_Standing__holds⟩
  haveI : FldI K (He.ga K "Standing") "_loose" := ⟨T.c_Standing, T.n_Standing__loose⟩
  haveI : FldI K (He.ga K "Weaving") "web" := ⟨T.c_Weaving, T.n_Weaving_web⟩
  haveI : FldI K (He.ga K "Weaving") "_events" := ⟨T.c_Weaving, T.n_Weaving__events⟩
  haveI : FldI K (He.ga K "Weaving") "_standings" := ⟨T.c_Weaving, T.n_Weaving__standings⟩
  haveI : FldI K (He.ga K "Weaving") "_lockers" := ⟨T.c_Weaving, T.n_Weaving__lockers⟩
  haveI : FldI K (He.ga K "Weaving") "_edges" := ⟨T.c_Weaving, T.n_Weaving__edges⟩
  haveI := T.v_Shape_MARKS
  haveI := T.v_Shape_PARENTS
  haveI := T.v_Web_MOST
  haveI := T.i_DEEDS
  haveI := T.i_MODES
  refine calD T.f__law_do T.g__law_do sc__law_do (fun _ _ _ _ _ _ us hl => match us, hl with | [_, _], _ => rfl) (fun _ => rfl) (fun cdv A outer s H E hr => ?_)
  have hu := hu_of hr
  have hu64 := hu64_of hr
  have hu65 := hu65_of hr
  refine ⟨_, (pss_one (ps_if (pt_cmpR (eqU K hu64) (pe_ix (ixU K) (pv 1) pe_int (fun _ _ => rfl)) pe_str (nomark _)) (pss_one (ps_asg (pe_op op_plus (pe_ix (ixU K) (pv 0) (pe_ix (ixU K) (pv 1) pe_int (fun _ _ => rfl)) (fun _ _ => rfl)) pe_int) (pg_sub (pv 0) (pe_ix (ixU K) (pv 1) pe_int (fun _ _ => rfl)) set_list))) (pss_one (ps_asg (pe_op op_plus (pe_bm PySem.F.plainAttrs_list PySem.F.slot_list_index PySem.F.type_list_index (idxU K) (pe_lst (pa_cons pe_str (pa_cons pe_str pa_nil))) (pa_cons (pe_ix (ixU K) (pv 1) pe_int (fun _ _ => rfl)) pa_nil)) pe_int) (pg_sub (pv 0) (pe_ix (ixU K) (pv 1) pe_int (fun _ _ => rfl)) set_list))))), ?_⟩
  rintro ⟨a, vs, dd, t⟩ L g fr Q ⟨h1, h2⟩ hR
  dsimp only at h1 h2
  show Gk L [some (rA a), some (rStep ⟨dd, t⟩)] [g] (oLs a (vs.map G.rI) :: fr) _
  walk_at "g0"
  have fin : ∀ v : Int, v = doV (vs.getD t.toNat default) dd → Gk L [some (rA a), some (rStep ⟨dd, t⟩)] [g] (oLs a ((vs.set t.toNat v).map G.rI) :: fr) (nxk (D0 Q)) := fun v hv => by
    subst hv
    exact k_finN hR () trivial (fun _ h => h)
  cases dd with
  | drop =>
    refine k_ifD (fun h => ?_) (fun h => absurd rfl h)
    walk_at "g0"
    exact fin _ rfl
  | own =>
    refine k_ifD (fun h => absurd h (show ¬ (Deed.own.s = Str.ofString "drop") by decide)) (fun h => ?_)
    walk_at "g0"
    refine k_index (l := ["own", "share"]) (j := 0) rfl (fun m hm => absurd hm (by omega)) ?_
    walk_at "g0"
    exact fin _ rfl
  | share =>
    refine k_ifD (fun h => absurd h (show ¬ (Deed.share.s = Str.ofString "drop") by decide)) (fun h => ?_)
    walk_at "g0"
    refine k_index (l := ["own", "share"]) (j := 1) rfl (fun m hm => by have : m = 0 := by omega
                                                                        subst this; show (["own", "share"] : List Str)[0]? ≠ some Deed.share.s; decide) ?_
    walk_at "g0"
    exact fin _ rfl

end


/-! _law_open -/
/-- a step that is open for a program with the values vs -/
structure OpenAt (ts : List Thing) (vs : List Int) (s : Step) : Prop where
  thing : 0 ≤ s.thing ∧ s.thing < ts.length
  drop : s.deed = .drop → vs.getD s.thing.toNat default = 1 ∨ vs.getD s.thing.toNat default = 2
  lock : s.deed ≠ .drop → vs.getD s.thing.toNat default = 0
  share : s.deed = .share → (ts.getD s.thing.toNat default).shared = true
structure OpenD where
  ms : List Str
  rows : List Row
  rules : List Rule
  things : List Thing
  st : Addr
  vals : List Int
structure OpenOk (d : OpenD) : Prop where
  rows : RowsOk d.ms d.rows
  rules : RulesOk d.ms d.rules
  things : ThingsOk d.rows d.things
  len : d.vals.length = d.things.length ∧ d.things.length ≤ 100
def ct__law_open : Ct where
  δ := OpenD
  ε := List Step
  ok := OpenOk
  pre d := [rDk (rulesKV d.rules), rLs (d.things.map rThing), rA d.st]
  own d := [oLs d.st (d.vals.map G.rI)]
  post d e := e.length ≤ 300 ∧ ∀ s ∈ e, OpenAt d.things d.vals s
  ret _ e := rLs (e.map rStep)
  out d _ := [oLs d.st (d.vals.map G.rI)]
section
variable {P : Program} {w : World} {K : PySem.W.Frag} {mg : Str → Option Value} {base : Heap}
set_option maxHeartbeats 4000000 in
theorem ok__law_open (T : Txt K mg) (C__law_lets : Cal P w K mg base 2 "_law_lets" (Fn ct__law_lets) []) : Cal P w K mg base 3 "_law_open" (Fn ct__law_open) [] := by
  haveI : FldI K (He.ga K "Shape") "_listed" := ⟨T.c_Shape, T.n_Shape__listed⟩
  haveI : FldI K (He.ga K "Shape") "_marks" := ⟨T.c_Shape, T.n_Shape__marks⟩
  haveI : FldI K (He.ga K "Web") "shape" := ⟨T.c_Web, T.n_Web_shape⟩
  haveI : FldI K (He.ga K "Web") "_rows" := ⟨T.c_Web, T.n_Web__rows⟩
  haveI : FldI K (He.ga K "Web") "_numbers" := ⟨T.c_Web, T.n_Web__numbers⟩
  haveI : FldI K (He.ga K "Standing") "web" := ⟨T.c_Standing, T.n_Standing_web⟩
  haveI : FldI K (He.ga K "Standing") "_modes" := ⟨T.c_Standing, T.n_Standing__modes⟩
  haveI : FldI K (He.ga K "Standing") "_holds" := ⟨T.c_Standing, T.n_Standing__holds⟩
  haveI : FldI K (He.ga K "Standing") "_loose" := ⟨T.c_Standing, T.n_Standing__loose⟩
  haveI : FldI K (He.ga K "Weaving") "web" := ⟨T.c_Weaving, T.n_Weaving_web⟩
  haveI : FldI K (He.ga K "Weaving") "_events" := ⟨T.c_Weaving, T.n_Weaving__events⟩
  haveI : FldI K (He.ga K "Weaving") "_standings" := ⟨T.c_Weaving, T.n_Weaving__standings⟩
  haveI : FldI K (He.ga K "Weaving") "_lockers" := ⟨T.c_Weaving, T.n_Weaving__lockers⟩
  haveI : FldI K (He.ga K "Weaving") "_edges" := ⟨T.c_Weaving, T.n_Weaving__edges⟩
  haveI := T.v_Shape_MARKS
  haveI := T.v_Shape_PARENTS
  haveI := T.v_Web_MOST
  haveI := T.i_DEEDS
  haveI := T.i_MODES
  refine calD T.f__law_open T.g__law_open sc__law_open (fun _ _ _ _ _ _ us hl => match us, hl with | [_, _, _], _ => rfl) (fun _ => rfl) (fun cdv A outer s H E hr => ?_)
  have hu := hu_of hr
  have hu64 := hu64_of hr
  have hu65 := hu65_of hr
  refine ⟨_, (pss_cons (ps_set (i := 3) sc__law_open.nd rfl (by first | exact Or.inl rfl | exact Or.inr rfl) (pe_lst pa_nil))
    (pss_cons (ps_set (i := 4) sc__law_open.nd rfl (by first | exact Or.inl rfl | exact Or.inr rfl) (pe_lst pa_nil))
    (pss_cons (ps_for PassesOwn.never rfl (pi_range1 (by rfl) T.z_range (pa_cons (pe_callB (lenU K) (by rfl) T.z_len PySem.boot_len (pa_cons (pv 1) pa_nil)) pa_nil)) (pg_name (i := 5) sc__law_open.nd rfl (by first | exact Or.inl rfl | exact Or.inr rfl))
    (pss_cons (ps_if (PW.pt (pw_and (pt_cmpR (eqU K hu64) (pe_ix (ixU K) (pv 2) (pv 5) (fun _ _ => rfl)) pe_int (nomark _)) (pw_and1 (pt_val (pe_c C__law_lets hr (by decide) (by rfl) (pa_cons (pv 0) (pa_cons (pv 1) (pa_cons (pv 2) (pa_cons (pv 5) pa_nil))))))))) (pss_cons (ps_expr (pe_bm PySem.F.plainAttrs_list PySem.F.slot_list_append PySem.F.type_list_append mt_append (pv 3) (pa_cons (pe_tup (pa_cons pe_str (pa_cons (pv 5) pa_nil))) pa_nil)))
    (pss_one (ps_if (pt_val (pe_ix (ixU K) (pe_ix (ixU K) (pv 1) (pv 5) (fun _ _ => rfl)) pe_int (fun _ _ => rfl))) (pss_one (ps_expr (pe_bm PySem.F.plainAttrs_list PySem.F.slot_list_append PySem.F.type_list_append mt_append (pv 3) (pa_cons (pe_tup (pa_cons pe_str (pa_cons (pv 5) pa_nil))) pa_nil)))) pss_nil))) pss_nil)
    (pss_one (ps_if (PW.pt (pw_or (pt_cmpR (eqU K hu64) (pe_ix (ixU K) (pv 2) (pv 5) (fun _ _ => rfl)) pe_int (nomark _)) (pw_or1 (pt_cmpR (eqU K hu64) (pe_ix (ixU K) (pv 2) (pv 5) (fun _ _ => rfl)) pe_int (nomark _))))) (pss_one (ps_expr (pe_bm PySem.F.plainAttrs_list PySem.F.slot_list_append PySem.F.type_list_append mt_append (pv 4) (pa_cons (pe_tup (pa_cons pe_str (pa_cons (pv 5) pa_nil))) pa_nil)))) pss_nil))))
    (pss_one (ps_ret (pe_op op_plus (pv 3) (pv 4))))))), ?_⟩
  rintro ⟨ms, rows, rules, ts, sa, vs⟩ L g fr Q ⟨o1, o2, o3, o4, o5⟩ hR
  dsimp only at o1 o2 o3 o4 o5
  show Gk L [some (rDk (rulesKV rules)), some (rLs (ts.map rThing)), some (rA sa), none, none, none] [g] (oLs sa (vs.map G.rI) :: fr) _
  walk_at "g"
  rename_i p1 p2
  refine ga_front 2 rfl ?_
  dsimp only [List.eraseIdx]
  refine k_forRn (T := List Step × List Step) (fun i s => (s.1.length ≤ 2 * i ∧ s.2.length ≤ i) ∧ ∀ x ∈ s.1 ++ s.2, OpenAt ts vs x) (fun _ => [some (rDk (rulesKV rules)), some (rLs (ts.map rThing)), some (rA sa), some (rA p1), some (rA p2), none]) (fun s => oLs sa (vs.map G.rI) :: oLs p2 (s.2.map rStep) :: oLs p1 (s.1.map rStep) :: fr) ([], []) ?z ⟨⟨Nat.le_refl _, Nat.le_refl _⟩, by simp⟩ (by walk_at "le") rfl ?_ ?_
  case z => omega
  · rintro i ⟨lo, dr⟩ N hi ⟨⟨(j1 : lo.length ≤ 2 * i), (j2 : dr.length ≤ i)⟩, (j3 : ∀ x ∈ lo ++ dr, OpenAt ts vs x)⟩ hN
    dsimp only at hN ⊢
    have hi : i < ts.length := by simpa using hi
    walk_at "gb"
    generalize hx : (0 + (i : Int)) = x
    have hx1 : 0 ≤ x ∧ x < ts.length := by omega
    have hx2 : 0 ≤ x ∧ x < vs.length := by omega
    refine k_nxD ?_
    refine k_seq ?_
    refine k_cutT (T := List Step) (fun l => l.length ≤ 2 * (i + 1) ∧ ∀ x ∈ l ++ dr, OpenAt ts vs x) (fun _ => [some (rDk (rulesKV rules)), some (rLs (ts.map rThing)), some (rA sa), some (rA p1), some (rA p2), some (G.rI x)]) (fun l => oLs sa (vs.map G.rI) :: oLs p2 (dr.map rStep) :: oLs p1 (l.map rStep) :: fr) ?_ (fun c => ?_)
    · rintro l ⟨(l1 : l.length ≤ 2 * (i + 1)), (l2 : ∀ x ∈ l ++ dr, OpenAt ts vs x)⟩
      have hd : ∀ v, vs.getD x.toNat default = v → v = 1 ∨ v = 2 → Gk L [some (rDk (rulesKV rules)), some (rLs (ts.map rThing)), some (rA sa), some (rA p1), some (rA p2), some (G.rI x)] [g] (oLs sa (vs.map G.rI) :: oLs p2 (dr.map rStep ++ [rStep ⟨.drop, x⟩]) :: oLs p1 (l.map rStep) :: fr) (fun σ _ H => N σ H) := fun v hv h12 => by
        have e : dr.map rStep ++ [rStep ⟨.drop, x⟩] = (dr ++ [(⟨.drop, x⟩ : Step)]).map rStep := by rw [List.map_append]; rfl
        rw [e]
        refine k_le (by walk_at "le") rfl (hN (l, dr ++ [⟨.drop, x⟩]) ⟨⟨l1, by simp; omega⟩, ?_⟩)
        intro y hy
        rw [← List.append_assoc] at hy
        rcases List.mem_append.mp hy with z | z
        · exact l2 y z
        · rw [List.mem_singleton.mp z]
          exact ⟨hx1, fun _ => by show vs.getD x.toNat default = 1 ∨ vs.getD x.toNat default = 2; rw [hv]; exact h12, fun q => absurd rfl q, (fun q => nomatch q)⟩
      walk_at "g"
      · rename_i h
        exact hd 2 h (.inr rfl)
      · refine k_le (by walk_at "le") rfl (hN (l, dr) ?_)
        exact ⟨⟨l1, (by show dr.length ≤ i + 1; omega)⟩, l2⟩
      · rename_i h
        exact hd 1 (of_decide_eq_true h) (.inl rfl)
    · walk_at "gb"
      · rename_i h0
        have h0 : vs.getD x.toNat default = 0 := of_decide_eq_true h0
        refine k_callF (c := ct__law_lets) ⟨ms, rows, rules, ts, sa, vs, x⟩ rfl rfl ⟨o1, o2, o3, ⟨o4, o5⟩, hx1⟩ ?_
        rintro (b : Bool) -
        conv => arg 3; dsimp only [ct__law_lets]
        conv => arg 4; dsimp only [ct__law_lets, List.cons_append, List.nil_append, List.eraseIdx]
        walk_at "gb"
        refine k_nxD ?_
        walk_at "gb"
        · rename_i hb hs
          refine k_le (by walk_at "le") ?_ (c (lo ++ [⟨.own, x⟩] ++ [⟨.share, x⟩]) ⟨by simp; omega, ?_⟩)
          · rw [List.map_append, List.map_append]; rfl
          · intro y hy
            simp only [List.mem_append, List.mem_singleton] at hy
            rcases hy with ((z | z) | z) | z
            · exact j3 y (List.mem_append_left _ z)
            · rw [z]; exact ⟨hx1, (fun q => nomatch q), (fun _ => h0), (fun q => nomatch q)⟩
            · rw [z]; exact ⟨hx1, (fun q => nomatch q), (fun _ => h0), fun _ => hs⟩
            · exact j3 y (List.mem_append_right _ z)
        · refine k_le (by walk_at "le") ?_ (c (lo ++ [⟨.own, x⟩]) ⟨by simp; omega, ?_⟩)
          · rw [List.map_append]; rfl
          · intro y hy
            simp only [List.mem_append, List.mem_singleton] at hy
            rcases hy with (z | z) | z
            · exact j3 y (List.mem_append_left _ z)
            · rw [z]; exact ⟨hx1, (fun q => nomatch q), (fun _ => h0), (fun q => nomatch q)⟩
            · exact j3 y (List.mem_append_right _ z)
        · refine k_le (by walk_at "le") rfl (c lo ?_)
          exact ⟨by omega, j3⟩
      · refine k_le (by walk_at "le") rfl (c lo ?_)
        exact ⟨by omega, j3⟩
  · rintro ⟨lo, dr⟩ ⟨⟨(j1 : lo.length ≤ 2 * (ts.length : Int).toNat), (j2 : dr.length ≤ (ts.length : Int).toNat)⟩, (j3 : ∀ x ∈ lo ++ dr, OpenAt ts vs x)⟩
    dsimp only
    refine n_frzS 3 ?_
    refine n_frzS 4 ?_
    walk_at "g"
    rw [← List.map_append]
    refine k_fin hR (lo ++ dr) ⟨by simp; omega, j3⟩ (fun _ h => h)

end


/-! _law_free -/
abbrev oSt (p : Addr × List Int) : Own := oLs p.1 (p.2.map G.rI)
def vAt (sts : List (Addr × List Int)) (t k : Int) : Int := (sts.getD k.toNat default).2.getD t.toNat default
structure FreeD where
  n : Nat
  sts : List (Addr × List Int)
  name : Int
  step : Step
structure FreeOk (d : FreeD) : Prop where
  len : d.sts.length ≤ 100
  all : ∀ p ∈ d.sts, p.2.length = d.n
  thing : 0 ≤ d.step.thing ∧ d.step.thing < d.n
def ct__law_free : Ct where
  δ := FreeD
  ε := Bool
  ok := FreeOk
  pre d := [rLs (d.sts.map fun p => rA p.1), G.rI d.name, rStep d.step]
  own d := d.sts.map oSt
  post d e := e = true → (d.step.deed = .own → ∀ k : Int, 0 ≤ k ∧ k < d.sts.length → k ≠ d.name → vAt d.sts d.step.thing k ≠ 1 ∧ vAt d.sts d.step.thing k ≠ 2) ∧ (d.step.deed = .share → ∀ k : Int, 0 ≤ k ∧ k < d.sts.length → k ≠ d.name → vAt d.sts d.step.thing k ≠ 1)
  ret _ e := rB e
  out d _ := d.sts.map oSt
theorem at_row {sts : List (Addr × List Int)} {fr : List Own} {k : Int} (h : 0 ≤ k ∧ k < sts.length) : (sts.map oSt ++ fr)[k.toNat]? = some (oLs (sts.getD k.toNat default).1 ((sts.getD k.toNat default).2.map G.rI)) := by
  have hk : k.toNat < sts.length := by omega
  rw [List.getElem?_append_left (by rw [List.length_map]; exact hk), List.getElem?_map, List.getD_eq_getElem?_getD, List.getElem?_eq_getElem hk]
  rfl
theorem mem_row {sts : List (Addr × List Int)} {k : Int} (h : 0 ≤ k ∧ k < sts.length) : sts.getD k.toNat default ∈ sts := getD_mem (by omega)
section
variable {P : Program} {w : World} {K : PySem.W.Frag} {mg : Str → Option Value} {base : Heap}
set_option maxHeartbeats 4000000 in
theorem ok__law_free (T : Txt K mg)  : Cal P w K mg base 1 "_law_free" (Fn ct__law_free) [] := by
  haveI : FldI K (He.ga K "Shape") "_listed" := ⟨T.c_Shape, T.n_Shape__listed⟩
  haveI : FldI K (He.ga K "Shape") "_marks" := ⟨T.c_Shape, T.n_Shape__marks⟩
  haveI : FldI K (He.ga K "Web") "shape" := ⟨T.c_Web, T.n_Web_shape⟩
  haveI : FldI K (He.ga K "Web") "_rows" := ⟨T.c_Web, T.n_Web__rows⟩
  haveI : FldI K (He.ga K "Web") "_numbers" := ⟨T.c_Web, T.n_Web__numbers⟩
  haveI : FldI K (He.ga K "Standing") "web" := ⟨T.c_Standing, T.n_Standing_web⟩
  haveI : FldI K (He.ga K "Standing") "_modes" := ⟨T.c_Standing, T.n_Standing__modes⟩
  haveI : FldI K (He.ga K "Standing") "_holds" := ⟨T.c_Standing, T.n_Standing__holds⟩
  haveI : FldI K (He.ga K "Standing") "_loose" := ⟨T.c_Standing, T.n_Standing__loose⟩
  haveI : FldI K (He.ga K "Weaving") "web" := ⟨T.c_Weaving, T.n_Weaving_web⟩
  haveI : FldI K (He.ga K "Weaving") "_events" := ⟨T.c_Weaving, T.n_Weaving__events⟩
  haveI : FldI K (He.ga K "Weaving") "_standings" := ⟨T.c_Weaving, T.n_Weaving__standings⟩
  haveI : FldI K (He.ga K "Weaving") "_lockers" := ⟨T.c_Weaving, T.n_Weaving__lockers⟩
  haveI : FldI K (He.ga K "Weaving") "_edges" := ⟨T.c_Weaving, T.n_Weaving__edges⟩
  haveI := T.v_Shape_MARKS
  haveI := T.v_Shape_PARENTS
  haveI := T.v_Web_MOST
  haveI := T.i_DEEDS
  haveI := T.i_MODES
  refine calD T.f__law_free T.g__law_free sc__law_free (fun _ _ _ _ _ _ us hl => match us, hl with | [_, _, _], _ => rfl) (fun _ => rfl) (fun cdv A outer s H E hr => ?_)
  have hu := hu_of hr
  have hu64 := hu64_of hr
  have hu65 := hu65_of hr
  refine ⟨_, (pss_cons (ps_setLc (i := 3) (own := [("_law_k", 4)]) rfl sc__law_free.nd rfl rfl (sw_true rfl rfl rfl (by decide +kernel)) (pi_range1 (by rfl) T.z_range (pa_cons (pe_callB (lenU K) (by rfl) T.z_len PySem.boot_len (pa_cons (pv 0) pa_nil)) pa_nil)) (blkOk_by (own := [("_law_k", 4)]) (N := N__law_free) (sc := (defScope s__law_free)) (by decide +kernel)) (fun _ _ _ _ _ => (pg_name (i := 4) sc__law_free.nd rfl (by first | exact Or.inl rfl | exact Or.inr rfl))) (fun _ _ _ _ _ => pts_one (pt_cmpR (neU K hu64) (pv 4) (pv 1) (nomark _))) (fun _ _ _ _ _ => (pe_ix (ixU K) (pe_ix (ixU K) (pv 0) (pv 4) (fun _ _ => rfl)) (pe_ix (ixU K) (pv 2) pe_int (fun _ _ => rfl)) (fun _ _ => rfl))))
    (pss_cons (ps_if (pt_cmpR (eqU K hu64) (pe_ix (ixU K) (pv 2) pe_int (fun _ _ => rfl)) pe_str (nomark _)) (pss_one (ps_ret (pe_and (pe_cmpR (notInU K hu65) pe_int (pv 3) rfl) (pe_one (pe_cmpR (notInU K hu65) pe_int (pv 3) rfl))))) pss_nil)
    (pss_one (ps_ret (pe_or (pe_cmpR (eqU K hu64) (pe_ix (ixU K) (pv 2) pe_int (fun _ _ => rfl)) pe_str (nomark _)) (pe_one (pe_cmpR (notInU K hu65) pe_int (pv 3) rfl))))))), ?_⟩
  rintro ⟨n, sts, name, ⟨dd, t⟩⟩ L g fr Q ⟨h1, h2, h3, h4⟩ hR
  dsimp only at h1 h2 h3 h4
  show Gk L [some (rLs (sts.map fun p => rA p.1)), some (G.rI name), some (rStep ⟨dd, t⟩), none, none] [g] (sts.map oSt ++ fr) _
  walk_at "g"
  refine k_lcR (w := ⟨rfl⟩) (by omega) (fun x => !decide (x = name)) (fun x => G.rI (vAt sts t x)) _  (fun y => gok_nm rfl (by decide)) (fun y hy gx D acc K2 h => ?_) (fun y hy hp gx D acc K1 h => ?_) (fun D => ?_)
  · walk_at "cm"
    walk_at "g"
    exact h
  · walk_at "cm"
    have hl := h2 _ (mem_row hy)
    have hv : 0 ≤ t ∧ t < ((sts.getD y.toNat default).2.length : Int) := by omega
    haveI : AtL (oLs D acc :: (sts.map oSt ++ fr)) (sts.getD y.toNat default).1 ((sts.getD y.toNat default).2.map G.rI) (y.toNat + 1) := ⟨by simpa using at_row hy⟩
    walk_at "g0"
    exact h
  refine n_frzT ?_
  rw [show (((rngL 0 1 (sts.length : Int).toNat).filter fun x => !decide (x = name)).map fun x => G.rI (vAt sts t x)) = (((rngL 0 1 (sts.length : Int).toNat).filter fun x => !decide (x = name)).map (vAt sts t)).map G.rI from by rw [List.map_map]; rfl]
  have hin : ∀ v : Int, v ∉ (((rngL 0 1 (sts.length : Int).toNat).filter fun x => !decide (x = name)).map (vAt sts t)) → ∀ k : Int, 0 ≤ k ∧ k < sts.length → k ≠ name → vAt sts t k ≠ v := by
    intro v hv k hk hn e
    refine hv (List.mem_map.mpr ⟨k, List.mem_filter.mpr ⟨?_, by simpa using hn⟩, e⟩)
    unfold rngL
    exact List.mem_map.mpr ⟨k.toNat, List.mem_range.mpr (by omega), by omega⟩
  generalize (((rngL 0 1 (sts.length : Int).toNat).filter fun x => !decide (x = name)).map (vAt sts t)) = l at hin
  walk_at "g0"
  refine k_ifD (fun h => ?_) (fun h => ?_)
  · have h : dd = .own := Deed.s_inj h
    subst h
    walk_at "g0"
    refine k_andV (c := !decide ((2:Int) ∈ l)) (fun _ K' h => ?_) ?_
    · walk_at "g0"
      exact h
    refine k_fin hR (!decide ((1:Int) ∈ l) && !decide ((2:Int) ∈ l)) ?_ (fun _ h => h)
    intro e
    have e : (!decide ((1:Int) ∈ l) && !decide ((2:Int) ∈ l)) = true := e
    simp only [Bool.and_eq_true, Bool.not_eq_true', decide_eq_false_iff_not] at e
    exact ⟨fun _ k hk hn => ⟨hin 1 e.1 k hk hn, hin 2 e.2 k hk hn⟩, fun q => nomatch q⟩
  · have h : dd ≠ .own := fun e => h (by rw [e]; rfl)
    walk_at "g"
    refine k_orV (c := !decide ((1:Int) ∈ l)) (fun _ K' h => ?_) ?_
    · walk_at "g0"
      exact h
    refine k_fin hR (decide (dd.s = Str.ofString "drop") || !decide ((1:Int) ∈ l)) ?_ (fun _ h => h)
    intro e
    have e : (decide (dd.s = Str.ofString "drop") || !decide ((1:Int) ∈ l)) = true := e
    refine ⟨fun q => absurd q h, fun q k hk hn => ?_⟩
    have q : dd = .share := q
    subst q
    simp only [Bool.or_eq_true, Bool.not_eq_true', decide_eq_false_iff_not, decide_eq_true_eq] at e
    rcases e with e | e
    · exact absurd e (by decide)
    · exact hin 1 e k hk hn

end


/-! _law_events -/
structure EventsD where
  ds : List Int
  a : Addr
  k : Int
  ms : List Str
  rows : List Row
  rules : List Rule
  things : List Thing
  n : Int
  count : Int
structure EventsOk (d : EventsD) : Prop where
  k : 0 ≤ d.k ∧ d.ds.length ≤ 10000
  rows : RowsOk d.ms d.rows
  rules : RulesOk d.ms d.rules
  things : ThingsOk d.rows d.things
  len : d.things.length ≤ 100
  n : 0 ≤ d.n ∧ d.n ≤ 10
  count : 0 ≤ d.count ∧ d.count ≤ 100
def ct__law_events : Ct where
  δ := EventsD
  ε := List Ev × Int
  ok := EventsOk
  pre d := [rLs (d.ds.map G.rI), rA d.a, rDk (rulesKV d.rules), rLs (d.things.map rThing), G.rI d.n, G.rI d.count]
  own d := [oLs d.a [G.rI d.k]]
  post d e := (Run d.things e.1 ∧ e.1.length ≤ d.count ∧ ∀ x ∈ e.1, 0 ≤ x.name ∧ x.name < d.n) ∧ 0 ≤ e.2
  ret _ e := rLs (e.1.map rEv)
  out d e := [oLs d.a [G.rI e.2]]
section
variable {P : Program} {w : World} {K : PySem.W.Frag} {mg : Str → Option Value} {base : Heap}
set_option maxHeartbeats 4000000 in
theorem ok__law_events (T : Txt K mg) (C__law_open : Cal P w K mg base 3 "_law_open" (Fn ct__law_open) []) (C__law_free : Cal P w K mg base 1 "_law_free" (Fn ct__law_free) []) (C__law_take : Cal P w K mg base 1 "_law_take" (Fn ct__law_take) []) (C__law_do : Cal P w K mg base 1 "_law_do" (Fn ct__law_do) []) : Cal P w K mg base 4 "_law_events" (Fn ct__law_events) [] := by
  haveI : FldI K (He.ga K "Shape") "_listed" := ⟨T.c_Shape, T.n_Shape__listed⟩
  haveI : FldI K (He.ga K "Shape") "_marks" := ⟨T.c_Shape, T.n_Shape__marks⟩
  haveI : FldI K (He.ga K "Web") "shape" := ⟨T.c_Web, T.n_Web_shape⟩
  haveI : FldI K (He.ga K "Web") "_rows" := ⟨T.c_Web, T.n_Web__rows⟩
  haveI : FldI K (He.ga K "Web") "_numbers" := ⟨T.c_Web, T.n_Web__numbers⟩
  haveI : FldI K (He.ga K "Standing") "web" := ⟨T.c_Standing, T.n_Standing_web⟩
  haveI : FldI K (He.ga K "Standing") "_modes" := ⟨T.c_Standing, T.n_Standing__modes⟩
  haveI : FldI K (He.ga K "Standing") "_holds" := ⟨T.c_Standing, T.n_Standing__holds⟩
  haveI : FldI K (He.ga K "Standing") "_loose" := ⟨T.c_Standing, T.n_Standing__loose⟩
  haveI : FldI K (He.ga K "Weaving") "web" := ⟨T.c_Weaving, T.n_Weaving_web⟩
  haveI : FldI K (He.ga K "Weaving") "_events" := ⟨T.c_Weaving, T.n_Weaving__events⟩
  haveI : FldI K (He.ga K "Weaving") "_standings" := ⟨T.c_Weaving, T.n_Weaving__standings⟩
  haveI : FldI K (He.ga K "Weaving") "_lockers" := ⟨T.c_Weaving, T.n_Weaving__lockers⟩
  haveI : FldI K (He.ga K "Weaving") "_edges" := ⟨T.c_Weaving, T.n_Weaving__edges⟩
  haveI := T.v_Shape_MARKS
  haveI := T.v_Shape_PARENTS
  haveI := T.v_Web_MOST
  haveI := T.i_DEEDS
  haveI := T.i_MODES
  refine calD T.f__law_events T.g__law_events sc__law_events (fun _ _ _ _ _ _ us hl => match us, hl with | [_, _, _, _, _, _], _ => rfl) (fun _ => rfl) (fun cdv A outer s H E hr => ?_)
  have hu := hu_of hr
  have hu64 := hu64_of hr
  have hu65 := hu65_of hr
  refine ⟨_, (pss_cons (ps_set (i := 6) sc__law_events.nd rfl (by first | exact Or.inl rfl | exact Or.inr rfl) (pe_lc (own := [("_law_name", 10)]) rfl sc__law_events.nd (pi_range1 (by rfl) T.z_range (pa_cons (pv 4) pa_nil)) (blkOk_by (own := [("_law_name", 10)]) (N := N__law_events) (sc := (defScope s__law_events)) (by decide +kernel)) (fun _ _ _ _ _ => (pg_name (i := 10) sc__law_events.nd rfl (by first | exact Or.inl rfl | exact Or.inr rfl))) (fun _ _ _ _ _ => pts_nil) (fun _ _ _ _ _ => (pe_lc (own := [("_law_thing", 13)]) rfl sc__law_events.nd (piL K (pv 3)) (blkOk_by (own := [("_law_thing", 13)]) (N := N__law_events) (sc := { kind := ScopeKind.function, names := [(Str.ofString ".0", NameKind.local), (Str.ofString "_law_name", NameKind.local), (Str.ofString "_law_things_here", NameKind.cell)], isGenerator := false, isCoroutine := false }) (by decide +kernel)) (fun _ _ _ _ _ => (pg_name (i := 13) sc__law_events.nd rfl (by first | exact Or.inl rfl | exact Or.inr rfl))) (fun _ _ _ _ _ => pts_nil) (fun _ _ _ _ _ => pe_int)))))
    (pss_cons (ps_set (i := 7) sc__law_events.nd rfl (by first | exact Or.inl rfl | exact Or.inr rfl) (pe_lst pa_nil))
    (pss_cons (ps_for PassesOwn.never rfl (pi_range1 (by rfl) T.z_range (pa_cons (pv 5) pa_nil)) (pg_name (i := 8) sc__law_events.nd rfl (by first | exact Or.inl rfl | exact Or.inr rfl))
    (pss_cons (ps_set (i := 9) sc__law_events.nd rfl (by first | exact Or.inl rfl | exact Or.inr rfl) (pe_lst pa_nil))
    (pss_cons (ps_for PassesOwn.never rfl (pi_range1 (by rfl) T.z_range (pa_cons (pv 4) pa_nil)) (pg_name (i := 10) sc__law_events.nd rfl (by first | exact Or.inl rfl | exact Or.inr rfl))
    (pss_cons (ps_set (i := 11) sc__law_events.nd rfl (by first | exact Or.inl rfl | exact Or.inr rfl) (pe_c C__law_open hr (by decide) (by rfl) (pa_cons (pv 2) (pa_cons (pv 3) (pa_cons (pe_ix (ixU K) (pv 6) (pv 10) (fun _ _ => rfl)) pa_nil)))))
    (pss_one (ps_set (i := 9) sc__law_events.nd rfl (by first | exact Or.inl rfl | exact Or.inr rfl) (pe_op op_plus (pv 9) (pe_lc (own := [("_law_step", 14)]) rfl sc__law_events.nd (piL K (pv 11)) (blkOk_by (own := [("_law_step", 14)]) (N := N__law_events) (sc := (defScope s__law_events)) (by decide +kernel)) (fun _ _ _ _ _ => (pg_name (i := 14) sc__law_events.nd rfl (by first | exact Or.inl rfl | exact Or.inr rfl))) (fun _ _ _ _ _ => pts_one (pt_val (pe_c C__law_free hr (by decide) (by rfl) (pa_cons (pv 6) (pa_cons (pv 10) (pa_cons (pv 14) pa_nil)))))) (fun _ _ _ _ _ => (pe_tup (pa_cons (pv 10) (pa_cons (pv 14) pa_nil))))))))))
    (pss_one (ps_if (pt_cmpR op_gt (pe_callB (lenU K) (by rfl) T.z_len PySem.boot_len (pa_cons (pv 9) pa_nil)) pe_int (nomark _)) (pss_cons (ps_set (i := 12) sc__law_events.nd rfl (by first | exact Or.inl rfl | exact Or.inr rfl) (pe_ix (ixU K) (pv 9) (pe_c C__law_take hr (by decide) (by rfl) (pa_cons (pv 0) (pa_cons (pv 1) (pa_cons (pe_callB (lenU K) (by rfl) T.z_len PySem.boot_len (pa_cons (pv 9) pa_nil)) pa_nil)))) (fun _ _ => rfl)))
    (pss_cons (ps_expr (pe_c C__law_do hr (by decide) (by rfl) (pa_cons (pe_ix (ixU K) (pv 6) (pe_ix (ixU K) (pv 12) pe_int (fun _ _ => rfl)) (fun _ _ => rfl)) (pa_cons (pe_ix (ixU K) (pv 12) pe_int (fun _ _ => rfl)) pa_nil))))
    (pss_one (ps_expr (pe_bm PySem.F.plainAttrs_list PySem.F.slot_list_append PySem.F.type_list_append mt_append (pv 7) (pa_cons (pv 12) pa_nil)))))) pss_nil)))))
    (pss_one (ps_ret (pv 7)))))), ?_⟩
  rintro ⟨ds, a, k, ms, rows, rules, ts, n, count⟩ L g fr Q ⟨⟨o1, o2⟩, o3, o4, o5, o6, ⟨o7, o8⟩, o9, o10⟩ hR
  dsimp only at o1 o2 o3 o4 o5 o6 o7 o8 o9 o10
  show Gk L [some (rLs (ds.map G.rI)), some (rA a), some (rDk (rulesKV rules)), some (rLs (ts.map rThing)), some (G.rI n), some (G.rI count), none, none, none, none, none, none, none, none, none] [g] (oLs a [G.rI k] :: fr) _
  walk_at "g0"
  have hz : (ts.map fun _ => (0:Int)).length = ts.length := by rw [List.length_map]
  generalize hzs : (ts.map fun _ => (0:Int)) = zs at *
  refine k_lcRx (w := ⟨rfl⟩) (T := List Addr) (by omega) (fun i s => s.length = i) (fun s => s.reverse.map rA) (fun s => (s.map fun p => oSt (p, zs)) ++ (oLs a [G.rI k] :: fr)) _ [] rfl rfl rfl (fun y => gok_nm rfl (by decide)) ?_ ?_
  · rintro i s D Ke Kn gx hi (j1 : s.length = i) hE hNn
    walk_at "cm"
    walk_at "g0"
    refine k_lcb (fun _ => ?_) (fun h => nomatch h)
    walk_at "g0"
    refine k_lcL (w := ⟨rfl⟩) (xs := ts) (t := rThing) (fun _ => true) (fun _ => G.rI 0) _  (by omega) (fun y => gok_nm rfl (by decide)) (fun y hy gx D acc K2 h => ?_) (fun y hy hp gx D acc K1 h => ?_) (fun D => ?_)
    · walk_at "cm"
      walk_at "g0"
      exact h
    · walk_at "cm"
      walk_at "g0"
      exact h
    rw [show (ts.filter fun _ => true) = ts from List.filter_eq_self.mpr fun _ _ => rfl, show (ts.map fun _ => G.rI 0) = zs.map G.rI from by rw [← hzs, List.map_map]; rfl]
    refine k_perm (List.Perm.swap _ _ _) ?_
    exact hE (rA D) (D :: s) _ (by simp [j1]) (by simp)
  · rintro s D (j1 : s.length = n.toNat)
    dsimp only
    refine n_frzT ?_
    have has : s.reverse.length = n.toNat := by rw [List.length_reverse]; exact j1
    refine k_perm (os' := oLs a [G.rI k] :: ((s.reverse.map fun p => oSt (p, zs)) ++ fr)) ?_ ?_
    · refine List.perm_middle.trans ((List.Perm.append_right _ ?_).cons _)
      rw [List.map_reverse]
      exact (List.reverse_perm _).symm
    generalize s.reverse = as at has
    clear j1
    clear s
    obtain ⟨sts0, hst0, hos0⟩ : ∃ sts, StsOk ts as [] sts ∧ (as.map fun p => oSt (p, zs)) = sts.map oSt := by
      refine ⟨as.map fun p => (p, zs), ⟨?_, fun i p hp => ?_⟩, by rw [List.map_map]; rfl⟩
      · rw [List.map_map]; exact List.map_id _
      · rw [List.getElem?_map] at hp
        cases q : as[i]? with
        | none => rw [q] at hp; cases hp
        | some b =>
          rw [q] at hp
          cases hp
          show zs = valsOf ts [] i
          rw [← hzs]
          unfold valsOf
          apply List.ext_getElem?
          intro m
          rw [List.getElem?_map, List.getElem?_map]
          by_cases z : m < ts.length
          · rw [List.getElem?_range z, List.getElem?_eq_getElem z]; rfl
          · rw [List.getElem?_eq_none (by omega), List.getElem?_eq_none (by rw [List.length_range]; omega)]; rfl
    rw [hos0]
    walk_at "g"
    rename_i p
    refine ga_front 1 rfl ?_
    dsimp only [List.eraseIdx]
    refine k_forRn (T := List Ev × List (Addr × List Int) × Int) (fun i s => Run ts s.1 ∧ s.1.length ≤ i ∧ (∀ x ∈ s.1, 0 ≤ x.name ∧ x.name < n) ∧ StsOk ts as s.1 s.2.1 ∧ 0 ≤ s.2.2) (fun _ => [some (rLs (ds.map G.rI)), some (rA a), some (rDk (rulesKV rules)), some (rLs (ts.map rThing)), some (G.rI n), some (G.rI count), some (rLs (as.map rA)), some (rA p), none, none, none, none, none, none, none]) (fun s => oLs a [G.rI s.2.2] :: oLs p (s.1.map rEv) :: (s.2.1.map oSt ++ fr)) ([], sts0, k) ?z ⟨.nil, Nat.le_refl _, by simp, hst0, o1⟩ (by walk_at "le") rfl ?_ ?_
    case z => omega
    · rintro i ⟨evs, sts, k1⟩ N hi ⟨(j1 : Run ts evs), (j2 : evs.length ≤ i), (j3 : ∀ x ∈ evs, 0 ≤ x.name ∧ x.name < n), (j4 : StsOk ts as evs sts), (j5 : 0 ≤ k1)⟩ hN
      dsimp only at hN ⊢
      have hi : i < 100 := by omega
      have hsl := j4.len
      walk_at "gb"
      refine k_nxD ?_
      walk_at "gb"
      refine n_frzS 9 ?_
      walk_at "g"
      refine k_forRn (T := List Ev) (fun i s => s.length ≤ 300 * i ∧ ∀ x ∈ s, Legal ts evs x ∧ 0 ≤ x.name ∧ x.name < n) (fun l => [some (rLs (ds.map G.rI)), some (rA a), some (rDk (rulesKV rules)), some (rLs (ts.map rThing)), some (G.rI n), some (G.rI count), some (rLs (as.map rA)), some (rA p), some (G.rI (0 + (i : Int))), some (rLs (l.map rEv)), none, none, none, none, none]) (fun _ => oLs a [G.rI k1] :: oLs p (evs.map rEv) :: (sts.map oSt ++ fr)) [] ?z2 ⟨Nat.le_refl _, by simp⟩ (by walk_at "le") rfl ?_ ?_
      case z2 => omega
      · rintro j l N2 hj ⟨(l1 : l.length ≤ 300 * j), (l2 : ∀ x ∈ l, Legal ts evs x ∧ 0 ≤ x.name ∧ x.name < n)⟩ hN2
        generalize hx : (0 + (j : Int)) = x
        have hx1 : 0 ≤ x ∧ x < as.length := by omega
        have hx2 : 0 ≤ x ∧ x < n := by omega
        have hg := j4.get hx1
        walk_at "g"
        refine ga_perm (os' := oSt (as.getD x.toNat default, valsOf ts evs x) :: ((sts.eraseIdx x.toNat).map oSt ++ (oLs a [G.rI k1] :: oLs p (evs.map rEv) :: fr))) ?_ ?_
        · exact (perm3 (X := [_, _])).trans (row_out (f := oSt) hg)
        refine k_callF (c := ct__law_open) ⟨ms, rows, rules, ts, as.getD x.toNat default, valsOf ts evs x⟩ rfl rfl ⟨o3, o4, o5, valsOf_len, o6⟩ ?_
        rintro (ss : List Step) ⟨(ss1 : ss.length ≤ 300), (ss2 : ∀ s ∈ ss, OpenAt ts (valsOf ts evs x) s)⟩
        conv => arg 3; dsimp only [ct__law_open]
        conv => arg 4; dsimp only [ct__law_open, List.cons_append, List.nil_append, List.eraseIdx]
        refine k_perm (os' := oLs a [G.rI k1] :: oLs p (evs.map rEv) :: (sts.map oSt ++ fr)) ?_ ?_
        · exact ((perm3 (X := [_, _])).trans (row_out (f := oSt) hg)).symm
        walk_at "g"
        refine k_lcLx (w := ⟨rfl⟩) (T := List Step) (xs := ss) (t := rStep) (fun i s => s.length ≤ i ∧ ∀ e ∈ s, Legal ts evs ⟨x, e⟩) (fun s => s.map fun e => rEv ⟨x, e⟩) (fun _ => oLs a [G.rI k1] :: oLs p (evs.map rEv) :: (sts.map oSt ++ fr)) _ [] ⟨Nat.le_refl _, by simp⟩ rfl rfl (by omega) (fun x => gok_nm rfl (by decide)) ?_ ?_
        · rintro m e kept D Ke Kn gx he ⟨(q1 : kept.length ≤ m), (q2 : ∀ e ∈ kept, Legal ts evs ⟨x, e⟩)⟩ hE hNn
          walk_at "cm"
          obtain ⟨e1, e2, e3, e4⟩ := ss2 e (List.mem_of_getElem? he)
          rw [valsOf_get e1] at e2 e3
          walk_at "g"
          refine ga_perm (perm3 (X := [_, _, _])) ?_
          refine k_callF (c := ct__law_free) (fr := [oLs D (kept.map fun e => rEv ⟨x, e⟩), oLs a [G.rI k1], oLs p (evs.map rEv)] ++ fr) ⟨ts.length, sts, x, e⟩ rfl ?_ ⟨by show sts.length ≤ 100; omega, ?_, e1⟩ ?_
          · show _ = [rLs (sts.map fun p => rA p.1), _, _]
            rw [← j4.fst, List.map_map]; rfl
          · intro q hq
            obtain ⟨m, hm⟩ := List.getElem?_of_mem hq
            rw [j4.snd m q hm, valsOf_len]
          rintro (b : Bool) (hb : b = true → _ ∧ _)
          conv => arg 3; dsimp only [ct__law_free]
          conv => arg 4; dsimp only [ct__law_free]
          refine k_perm (os' := oLs D (kept.map fun e => rEv ⟨x, e⟩) :: oLs a [G.rI k1] :: oLs p (evs.map rEv) :: (sts.map oSt ++ fr)) (perm3 (X := [_, _, _])).symm ?_
          have gv : ∀ k : Int, 0 ≤ k ∧ k < sts.length → vAt sts e.thing k = stF evs k e.thing := fun k hk => by
            unfold vAt
            rw [show sts.getD k.toNat default = (as.getD k.toNat default, valsOf ts evs k) from by rw [List.getD_eq_getElem?_getD, j4.get ⟨hk.1, by omega⟩]; rfl]
            exact valsOf_get e1
          have st0 : ∀ k : Int, ¬ (0 ≤ k ∧ k < sts.length) → stF evs k e.thing = 0 := fun k hk => stF_none fun z hz hzk => hk (by have := j3 z hz; omega)
          walk_at "g"
          refine k_lcb (fun hbt => ?_) (fun _ => ?_)
          · walk_at "g"
            obtain ⟨f1, f2⟩ := hb hbt
            refine hE (rEv ⟨x, e⟩) (kept ++ [e]) _ ⟨by simp; omega, ?_⟩ (by simp)
            intro y hy
            rcases List.mem_append.mp hy with z | z
            · exact q2 y z
            · rw [List.mem_singleton.mp z]
              refine ⟨e1, e2, e3, e4, fun hd k hk => ?_, fun hd k hk => ?_⟩
              · by_cases hkr : 0 ≤ k ∧ k < sts.length
                · have := f1 hd k hkr hk
                  rw [gv k hkr] at this; exact this
                · have := st0 k hkr
                  show stF evs k e.thing ≠ 1 ∧ stF evs k e.thing ≠ 2
                  omega
              · by_cases hkr : 0 ≤ k ∧ k < sts.length
                · have := f2 hd k hkr hk
                  rw [gv k hkr] at this; exact this
                · have := st0 k hkr
                  show stF evs k e.thing ≠ 1
                  omega
          · exact hNn kept _ ⟨by omega, q2⟩ rfl
        · rintro kept D ⟨(q1 : kept.length ≤ ss.length), (q2 : ∀ e ∈ kept, Legal ts evs ⟨x, e⟩)⟩
          refine n_frzT ?_
          walk_at "g"
          rw [show l.map rEv ++ (kept.map fun e => rEv ⟨x, e⟩) = (l ++ kept.map (Ev.mk x)).map rEv from by rw [List.map_append, List.map_map]; rfl]
          refine k_le (by walk_at "le") rfl (hN2 (l ++ kept.map (Ev.mk x)) ?_)
          refine ⟨by simp; omega, fun y hy => ?_⟩
          rcases List.mem_append.mp hy with z | z
          · exact l2 y z
          · obtain ⟨e, he, rfl⟩ := List.mem_map.mp z
            exact ⟨q2 e he, hx2⟩
      · rintro l ⟨(l1 : l.length ≤ 300 * n.toNat), (l2 : ∀ x ∈ l, Legal ts evs x ∧ 0 ≤ x.name ∧ x.name < n)⟩
        walk_at "g"
        · refine k_callF (c := ct__law_take) (ds, a, k1, (l.length : Int)) rfl rfl ⟨(by omega : 0 < (l.length : Int)), j5, o2⟩ ?_
          rintro (z : Int) ⟨(z1 : 0 ≤ z), (z2 : z < l.length)⟩
          conv => arg 3; dsimp only [ct__law_take]
          conv => arg 4; dsimp only [ct__law_take, List.cons_append, List.nil_append, List.eraseIdx]
          walk_at "gb"
          refine k_nxD ?_
          have hz : z.toNat < l.length := by omega
          have he := getD_mem hz
          generalize l.getD z.toNat default = e at he
          obtain ⟨e1, e2⟩ := l2 e he
          have ha : 0 ≤ e.name ∧ e.name < as.length := by omega
          have hg := j4.get ha
          walk_at "gb"
          refine ga_perm (os' := oSt (as.getD e.name.toNat default, valsOf ts evs e.name) :: ((sts.eraseIdx e.name.toNat).map oSt ++ (oLs a [G.rI (k1 + 1)] :: oLs p (evs.map rEv) :: fr))) ?_ ?_
          · exact (perm3 (X := [_, _])).trans (row_out (f := oSt) hg)
          refine k_callF (c := ct__law_do) (as.getD e.name.toNat default, valsOf ts evs e.name, e.step) rfl rfl ⟨e1.thing.1, by rw [valsOf_len]; exact e1.thing.2⟩ ?_
          rintro - -
          conv => arg 3; dsimp only [ct__law_do]
          conv => arg 4; dsimp only [ct__law_do, List.cons_append, List.nil_append, List.eraseIdx]
          rw [valsOf_get e1.thing]
          refine k_perm (os' := oLs a [G.rI (k1 + 1)] :: oLs p (evs.map rEv) :: ((sts.set e.name.toNat (as.getD e.name.toNat default, (valsOf ts evs e.name).set e.step.thing.toNat (doV (stF evs e.name e.step.thing) e.step.deed))).map oSt ++ fr)) ?_ ?_
          · exact (row_in (f := oSt) (x := (as.getD e.name.toNat default, (valsOf ts evs e.name).set e.step.thing.toNat (doV (stF evs e.name e.step.thing) e.step.deed))) (by omega)).trans (perm3 (X := [_, _])).symm
          have hel : evs.length ≤ 10000 := by omega
          walk_at "g"
          refine k_le (by walk_at "le") rfl (hN (evs ++ [e], sts.set e.name.toNat (as.getD e.name.toNat default, (valsOf ts evs e.name).set e.step.thing.toNat (doV (stF evs e.name e.step.thing) e.step.deed)), k1 + 1) ?_)
          refine ⟨j1.snoc e1, by simp; omega, fun y hy => ?_, j4.put ha e1.thing, by show 0 ≤ k1 + 1; omega⟩
          rcases List.mem_append.mp hy with z | z
          · exact j3 y z
          · rw [List.mem_singleton.mp z]; exact e2
        · refine k_le (by walk_at "le") rfl (hN (evs, sts, k1) ?_)
          exact ⟨j1, (by show evs.length ≤ i + 1; omega), j3, j4, j5⟩
    · rintro ⟨evs, sts, k1⟩ ⟨(j1 : Run ts evs), (j2 : evs.length ≤ count.toNat), (j3 : ∀ x ∈ evs, 0 ≤ x.name ∧ x.name < n), (j4 : StsOk ts as evs sts), (j5 : 0 ≤ k1)⟩
      dsimp only
      walk_at "g"
      refine n_frzT ?_
      refine k_perm (os' := sts.map oSt ++ (oLs a [G.rI k1] :: fr)) (perm3 (X := [_])) ?_
      refine k_forgetN (sts.map oSt) ?_
      refine k_fin hR (evs, k1) ⟨⟨j1, ?_, j3⟩, j5⟩ (fun _ h => h)
      show (evs.length : Int) ≤ count
      omega

end


/-! _law_edges -/
def ct__law_edges : Ct where
  δ := List Ev
  ε := List (Int × Int)
  ok d := d.length ≤ 50
  pre d := [rLs (d.map rEv)]
  own d := []
  post d e := ∀ a b, (a, b) ∈ e ↔ Edge d a b
  ret d e := rLs (e.map rPr)
  out d e := []
section
variable {P : Program} {w : World} {K : PySem.W.Frag} {mg : Str → Option Value} {base : Heap}
set_option maxHeartbeats 4000000 in
theorem ok__law_edges (T : Txt K mg)  : Cal P w K mg base 1 "_law_edges" (Fn ct__law_edges) [] := by
  haveI : FldI K (He.ga K "Shape") "_listed" := ⟨T.c_Shape, T.n_Shape__listed⟩
  haveI : FldI K (He.ga K "Shape") "_marks" := ⟨T.c_Shape, T.n_Shape__marks⟩
  haveI : FldI K (He.ga K "Web") "shape" := ⟨T.c_Web, T.n_Web_shape⟩
  haveI : FldI K (He.ga K "Web") "_rows" := ⟨T.c_Web, T.n_Web__rows⟩
  haveI : FldI K (He.ga K "Web") "_numbers" := ⟨T.c_Web, T.n_Web__numbers⟩
  haveI : FldI K (He.ga K "Standing") "web" := ⟨T.c_Standing, T.n_Standing_web⟩
  haveI : FldI K (He.ga K "Standing") "_modes" := ⟨T.c_Standing, T.n_Standing__modes⟩
  haveI : FldI K (He.ga K "Standing") "_holds" := ⟨T.c_Standing, T.n_Standing__holds⟩
  haveI : FldI K (He.ga K "Standing") "_loose" := ⟨T.c_Standing, T.n_Standing__loose⟩
  haveI : FldI K (He.ga K "Weaving") "web" := ⟨T.c_Weaving, T.n_Weaving_web⟩
  haveI : FldI K (He.ga K "Weaving") "_events" := ⟨T.c_Weaving, T.n_Weaving__events⟩
  haveI : FldI K (He.ga K "Weaving") "_standings" := ⟨T.c_Weaving, T.n_Weaving__standings⟩
  haveI : FldI K (He.ga K "Weaving") "_lockers" := ⟨T.c_Weaving, T.n_Weaving__lockers⟩
  haveI : FldI K (He.ga K "Weaving") "_edges" := ⟨T.c_Weaving, T.n_Weaving__edges⟩
  haveI := T.v_Shape_MARKS
  haveI := T.v_Shape_PARENTS
  haveI := T.v_Web_MOST
  haveI := T.i_DEEDS
  haveI := T.i_MODES
  refine calD T.f__law_edges T.g__law_edges sc__law_edges (fun _ _ _ _ _ _ us hl => match us, hl with | [_], _ => rfl) (fun _ => rfl) (fun cdv A outer s H E hr => ?_)
  have hu := hu_of hr
  have hu64 := hu64_of hr
  have hu65 := hu65_of hr
  refine ⟨_, (pss_cons (ps_set (i := 1) sc__law_edges.nd rfl (by first | exact Or.inl rfl | exact Or.inr rfl) (pe_lst pa_nil))
    (pss_cons (ps_for PassesOwn.never rfl (pi_range1 (by rfl) T.z_range (pa_cons (pe_callB (lenU K) (by rfl) T.z_len PySem.boot_len (pa_cons (pv 0) pa_nil)) pa_nil)) (pg_name (i := 2) sc__law_edges.nd rfl (by first | exact Or.inl rfl | exact Or.inr rfl))
    (pss_one (ps_for PassesOwn.never rfl (pi_range1 (by rfl) T.z_range (pa_cons (pv 2) pa_nil)) (pg_name (i := 3) sc__law_edges.nd rfl (by first | exact Or.inl rfl | exact Or.inr rfl))
    (pss_cons (ps_set (i := 4) sc__law_edges.nd rfl (by first | exact Or.inl rfl | exact Or.inr rfl) (pe_ix (ixU K) (pv 0) (pv 3) (fun _ _ => rfl)))
    (pss_cons (ps_set (i := 5) sc__law_edges.nd rfl (by first | exact Or.inl rfl | exact Or.inr rfl) (pe_ix (ixU K) (pv 0) (pv 2) (fun _ _ => rfl)))
    (pss_cons (ps_set (i := 6) sc__law_edges.nd rfl (by first | exact Or.inl rfl | exact Or.inr rfl) (pe_lst (pa_cons (pe_ix (ixU K) (pe_ix (ixU K) (pv 4) pe_int (fun _ _ => rfl)) pe_int (fun _ _ => rfl)) (pa_cons (pe_ix (ixU K) (pe_ix (ixU K) (pv 5) pe_int (fun _ _ => rfl)) pe_int (fun _ _ => rfl)) pa_nil))))
    (pss_one (ps_if (PW.pt (pw_and (pt_cmpR (neU K hu64) (pe_ix (ixU K) (pv 4) pe_int (fun _ _ => rfl)) (pe_ix (ixU K) (pv 5) pe_int (fun _ _ => rfl)) (nomark _)) (pw_and (pt_cmpR (eqU K hu64) (pe_ix (ixU K) (pe_ix (ixU K) (pv 4) pe_int (fun _ _ => rfl)) pe_int (fun _ _ => rfl)) (pe_ix (ixU K) (pe_ix (ixU K) (pv 5) pe_int (fun _ _ => rfl)) pe_int (fun _ _ => rfl)) (nomark _)) (pw_and1 (pt_cmpR (notInU K hu65) pe_str (pv 6) rfl))))) (pss_one (ps_if (PW.pt (pw_and (pt_cmpR (inU K hu65) pe_str (pv 6) rfl) (pw_and1 (pt_cmpR (notInU K hu65) (pe_tup (pa_cons (pe_ix (ixU K) (pv 4) pe_int (fun _ _ => rfl)) (pa_cons (pe_ix (ixU K) (pv 5) pe_int (fun _ _ => rfl)) pa_nil))) (pv 1) rfl)))) (pss_one (ps_expr (pe_bm PySem.F.plainAttrs_list PySem.F.slot_list_append PySem.F.type_list_append mt_append (pv 1) (pa_cons (pe_tup (pa_cons (pe_ix (ixU K) (pv 4) pe_int (fun _ _ => rfl)) (pa_cons (pe_ix (ixU K) (pv 5) pe_int (fun _ _ => rfl)) pa_nil))) pa_nil)))) pss_nil)) pss_nil))))))))
    (pss_one (ps_ret (pv 1))))), ?_⟩
  rintro (evs : List Ev) L g fr Q o hR
  have o : evs.length ≤ 50 := o
  show Gk L [some (rLs (evs.map rEv)), none, none, none, none, none, none] [g] fr _
  walk_at "g0"
  rename_i p
  refine k_forRn (T := List (Int × Int)) (fun k e => EdgeAt evs k 0 e ∧ e.length ≤ 50 * k) (fun _ => [some (rLs (evs.map rEv)), some (rA p), none, none, none, none, none]) (fun e => oLs p (e.map rPr) :: fr) [] ?z ⟨EdgeAt.start evs, Nat.zero_le _⟩ (by walk_at "le") rfl ?_ ?_
  case z => omega
  · rintro k e N hk ⟨j1, j2⟩ hN
    have hk2 : k < evs.length := by omega
    have hy := List.getElem?_eq_getElem hk2
    generalize evs[k] = y at hy
    have gy : evs.getD k default = y := by rw [List.getD_eq_getElem?_getD, hy]; rfl
    walk_at "g0"
    refine k_forRn (T := List (Int × Int)) (fun j e => EdgeAt evs k j e ∧ e.length ≤ 50 * k + j) (fun _ => [some (rLs (evs.map rEv)), some (rA p), some (G.rI (0 + (k : Int))), none, none, none, none]) (fun e => oLs p (e.map rPr) :: fr) e ?z2 ⟨j1, by omega⟩ (by walk_at "le") rfl ?_ ?_
    case z2 => omega
    · rintro j e N2 hj ⟨q1, q2⟩ hN2
      have hj2 : j < evs.length := by omega
      have hx := List.getElem?_eq_getElem hj2
      generalize evs[j] = x at hx
      have gx : evs.getD j default = x := by rw [List.getD_eq_getElem?_getD, hx]; rfl
      have ht := q1.turn hx hy
      have sd : ∀ (a : Deed) (u v : Ev), a.s ∈ [u.step.deed.s, v.step.deed.s] ↔ u.step.deed = a ∨ v.step.deed = a := fun a u v => by
        simp only [List.mem_cons, List.not_mem_nil, or_false]
        constructor
        · rintro (h | h)
          · exact .inl (Deed.s_inj h).symm
          · exact .inr (Deed.s_inj h).symm
        · rintro (h | h)
          · exact .inl (by rw [h])
          · exact .inr (by rw [h])
      walk_at "g0"
      rw [show (0 + (j : Int)).toNat = j from by omega, show (0 + (k : Int)).toNat = k from by omega, gx, gy]
      have no : ¬ Cf x y → Gk L [some (rLs (evs.map rEv)), some (rA p), some (G.rI (0 + (k : Int))), some (G.rI (0 + (j : Int))), some (rEv x), some (rEv y), some (rLs [rS x.step.deed.s, rS y.step.deed.s])] [g] (oLs p (e.map rPr) :: fr) (fun σ _ H => N2 σ H) := fun hc => by
        refine k_le (by walk_at "le") rfl (hN2 e ?_)
        exact ⟨ht.2 hc, by omega⟩
      by_cases h1 : x.name = y.name
      · rw [decide_eq_true h1]
        refine k_andF ?_
        refine k_ifF ?_
        walk_at "g0"
        exact no fun c => c.name h1
      rw [decide_eq_false h1]
      refine k_andT ?_
      walk_at "g0"
      by_cases h2 : ¬ x.step.thing = y.step.thing
      · rw [decide_eq_false h2]
        refine k_andF ?_
        refine k_ifF ?_
        walk_at "g0"
        exact no fun c => h2 c.thing
      have h2 := Decidable.not_not.mp h2
      rw [decide_eq_true h2]
      refine k_andT ?_
      walk_at "g0"
      have lk : ∀ u : Ev, u.step.deed ≠ .drop ↔ isLk u = true := fun u => isLk_iff.symm
      by_cases h3 : Str.ofString "drop" ∈ [x.step.deed.s, y.step.deed.s]
      · rw [decide_eq_true h3]
        refine k_ifF ?_
        walk_at "g0"
        refine no fun c => ?_
        rcases (sd .drop x y).mp h3 with z | z
        · exact isLk_iff.mp c.lk1 z
        · exact isLk_iff.mp c.lk2 z
      rw [decide_eq_false h3]
      refine k_ifT ?_
      walk_at "g0"
      have k1 : isLk x = true := isLk_iff.mpr fun z => h3 ((sd .drop x y).mpr (.inl z))
      have k2 : isLk y = true := isLk_iff.mpr fun z => h3 ((sd .drop x y).mpr (.inr z))
      by_cases h4 : Str.ofString "own" ∈ [x.step.deed.s, y.step.deed.s]
      · have hc : Cf x y := ⟨h1, h2, k1, k2, (sd .own x y).mp h4⟩
        rw [decide_eq_true h4]
        refine k_andT ?_
        walk_at "g0"
        refine k_notInPr ?_
        walk_at "g0"
        by_cases h5 : (x.name, y.name) ∈ e
        · rw [decide_eq_true h5]
          refine k_ifF ?_
          walk_at "g0"
          refine k_le (by walk_at "le") rfl (hN2 e ?_)
          have := ht.1 hc
          rw [addE_same h5] at this
          exact ⟨this, by omega⟩
        · rw [decide_eq_false h5]
          refine k_ifT ?_
          have : e.length ≤ 10000 := by omega
          walk_at "g0"
          rw [show e.map rPr ++ [rTp [G.rI x.name, G.rI y.name]] = (e ++ [(x.name, y.name)]).map rPr from by rw [List.map_append]; rfl]
          refine k_le (by walk_at "le") rfl (hN2 (e ++ [(x.name, y.name)]) ?_)
          have := ht.1 hc
          rw [addE_new h5] at this
          exact ⟨this, by rw [List.length_append, List.length_singleton]; omega⟩
      · rw [decide_eq_false h4]
        walk_at "g0"
        exact no fun c => h4 ((sd .own x y).mpr c.own)
    · rintro e ⟨q1, q2⟩
      rw [show (0 + (k : Int)).toNat = k from by omega] at q1 q2
      refine k_le (by walk_at "le") rfl (hN e ?_)
      exact ⟨q1.next hy, by omega⟩
  · rintro e ⟨j1, j2⟩
    walk_at "g0"
    refine n_frzT ?_
    exact k_fin hR e (fun a b => j1.end_ a b) (fun _ h => h)

end


/-! _law_ascending -/
structure LasD where
  evs : List Ev
  ns : List Int
structure LasOk (d : LasD) : Prop where
  len : d.evs.length ≤ 50
  ns : d.ns.length ≤ 20
def ct__law_ascending : Ct where
  δ := LasD
  ε := List (Int × Int)
  ok := LasOk
  pre d := [rLs (d.evs.map rEv), rLs (d.ns.map G.rI)]
  own d := []
  post d e := AscE d.evs d.ns e
  ret d e := rLs (e.map rPr)
  out d e := []
section
variable {P : Program} {w : World} {K : PySem.W.Frag} {mg : Str → Option Value} {base : Heap}
set_option maxHeartbeats 4000000 in
theorem ok__law_ascending (T : Txt K mg) (C__law_edges : Cal P w K mg base 1 "_law_edges" (Fn ct__law_edges) []) : Cal P w K mg base 2 "_law_ascending" (Fn ct__law_ascending) [] := by
  haveI : FldI K (He.ga K "Shape") "_listed" := ⟨T.c_Shape, T.n_Shape__listed⟩
  haveI : FldI K (He.ga K "Shape") "_marks" := ⟨T.c_Shape, T.n_Shape__marks⟩
  haveI : FldI K (He.ga K "Web") "shape" := ⟨T.c_Web, T.n_Web_shape⟩
  haveI : FldI K (He.ga K "Web") "_rows" := ⟨T.c_Web, T.n_Web__rows⟩
  haveI : FldI K (He.ga K "Web") "_numbers" := ⟨T.c_Web, T.n_Web__numbers⟩
  haveI : FldI K (He.ga K "Standing") "web" := ⟨T.c_Standing, T.n_Standing_web⟩
  haveI : FldI K (He.ga K "Standing") "_modes" := ⟨T.c_Standing, T.n_Standing__modes⟩
  haveI : FldI K (He.ga K "Standing") "_holds" := ⟨T.c_Standing, T.n_Standing__holds⟩
  haveI : FldI K (He.ga K "Standing") "_loose" := ⟨T.c_Standing, T.n_Standing__loose⟩
  haveI : FldI K (He.ga K "Weaving") "web" := ⟨T.c_Weaving, T.n_Weaving_web⟩
  haveI : FldI K (He.ga K "Weaving") "_events" := ⟨T.c_Weaving, T.n_Weaving__events⟩
  haveI : FldI K (He.ga K "Weaving") "_standings" := ⟨T.c_Weaving, T.n_Weaving__standings⟩
  haveI : FldI K (He.ga K "Weaving") "_lockers" := ⟨T.c_Weaving, T.n_Weaving__lockers⟩
  haveI : FldI K (He.ga K "Weaving") "_edges" := ⟨T.c_Weaving, T.n_Weaving__edges⟩
  haveI := T.v_Shape_MARKS
  haveI := T.v_Shape_PARENTS
  haveI := T.v_Web_MOST
  haveI := T.i_DEEDS
  haveI := T.i_MODES
  refine calD T.f__law_ascending T.g__law_ascending sc__law_ascending (fun _ _ _ _ _ _ us hl => match us, hl with | [_, _], _ => rfl) (fun _ => rfl) (fun cdv A outer s H E hr => ?_)
  have hu := hu_of hr
  have hu64 := hu64_of hr
  have hu65 := hu65_of hr
  refine ⟨_, (pss_cons (ps_set (i := 2) sc__law_ascending.nd rfl (by first | exact Or.inl rfl | exact Or.inr rfl) (pe_c C__law_edges hr (by decide) (by rfl) (pa_cons (pv 0) pa_nil)))
    (pss_cons (ps_set (i := 3) sc__law_ascending.nd rfl (by first | exact Or.inl rfl | exact Or.inr rfl) (pe_lst pa_nil))
    (pss_cons (ps_for PassesOwn.never rfl (piL K (pe_callB (sortedU K) (by rfl) T.z_sorted (by decide +kernel) (pa_cons (pe_lc (own := [("_law_name", 6)]) rfl sc__law_ascending.nd (piL K (pv 1)) (blkOk_by (own := [("_law_name", 6)]) (N := N__law_ascending) (sc := (defScope s__law_ascending)) (by decide +kernel)) (fun _ _ _ _ _ => (pg_name (i := 6) sc__law_ascending.nd rfl (by first | exact Or.inl rfl | exact Or.inr rfl))) (fun _ _ _ _ _ => pts_nil) (fun _ _ _ _ _ => (pe_callTy c_int (by rfl) T.z_int (by decide +kernel) (pa_cons (pv 6) pa_nil)))) pa_nil))) (pg_name (i := 4) sc__law_ascending.nd rfl (by first | exact Or.inl rfl | exact Or.inr rfl))
    (pss_one (ps_for PassesOwn.never rfl (piL K (pe_callB (sortedU K) (by rfl) T.z_sorted (by decide +kernel) (pa_cons (pe_lc (own := [("_law_name", 6)]) rfl sc__law_ascending.nd (piL K (pv 1)) (blkOk_by (own := [("_law_name", 6)]) (N := N__law_ascending) (sc := (defScope s__law_ascending)) (by decide +kernel)) (fun _ _ _ _ _ => (pg_name (i := 6) sc__law_ascending.nd rfl (by first | exact Or.inl rfl | exact Or.inr rfl))) (fun _ _ _ _ _ => pts_nil) (fun _ _ _ _ _ => (pe_callTy c_int (by rfl) T.z_int (by decide +kernel) (pa_cons (pv 6) pa_nil)))) pa_nil))) (pg_name (i := 5) sc__law_ascending.nd rfl (by first | exact Or.inl rfl | exact Or.inr rfl))
    (pss_one (ps_if (pt_cmpR (inU K hu65) (pe_tup (pa_cons (pv 4) (pa_cons (pv 5) pa_nil))) (pv 2) rfl) (pss_one (ps_expr (pe_bm PySem.F.plainAttrs_list PySem.F.slot_list_append PySem.F.type_list_append mt_append (pv 3) (pa_cons (pe_tup (pa_cons (pv 4) (pa_cons (pv 5) pa_nil))) pa_nil)))) pss_nil)))))
    (pss_one (ps_ret (pv 3)))))), ?_⟩
  rintro ⟨evs, names⟩ L g fr Q ⟨o1, o2⟩ hR
  dsimp only at o1 o2
  show Gk L [some (rLs (evs.map rEv)), some (rLs (names.map G.rI)), none, none, none, none, none] [g] fr _
  walk_at "g0"
  refine k_callF (c := ct__law_edges) (fr := fr) evs rfl rfl o1 ?_
  rintro (ed : List (Int × Int)) (hed : ∀ a b, (a, b) ∈ ed ↔ Edge evs a b)
  show Gk L _ (rLs (ed.map rPr) :: _) fr _
  walk_at "g0"
  rename_i p
  refine k_lcL (w := ⟨rfl⟩) (xs := names) (t := G.rI) (fun _ => true) (fun n => G.rI n) _  (by omega) (fun y => gok_nm rfl (by decide)) (fun y hy gx D acc K2 h => ?_) (fun y hy hp gx D acc K1 h => ?_) (fun D => ?_)
  · walk_at "cm"
    walk_at "g0"
    exact h
  · walk_at "cm"
    walk_at "g0"
    exact h
  rw [show (names.filter fun _ => true) = names from List.filter_eq_self.mpr fun _ _ => rfl]
  walk_at "g0"
  refine k_sorted (by omega) fun ns h1 h2 => ?_
  refine k_forget 0 ?_
  have hnl : ns.length ≤ 20 := by rw [h1.length_eq]; exact o2
  refine k_forL (qs := ns.map G.rI) (T := Nat) (fun i s => s = i) (fun _ => [some (rLs (evs.map rEv)), some (rLs (names.map G.rI)), some (rLs (ed.map rPr)), some (rA p), none, none, none]) (fun i => oLs p (((pairsOf (ns.take i) ns).filter fun p => decide (p ∈ ed)).map rPr) :: fr) 0 rfl (by walk_at "le") rfl ?_ ?_
  · rintro i q gh j N hq rfl hN
    obtain ⟨a, ha, rfl⟩ := map_get hq
    walk_at "g0"
    refine k_lcL (w := ⟨rfl⟩) (xs := names) (t := G.rI) (fun _ => true) (fun n => G.rI n) _  (by omega) (fun y => gok_nm rfl (by decide)) (fun y hy gx D acc K2 h => ?_) (fun y hy hp gx D acc K1 h => ?_) (fun D => ?_)
    · walk_at "cm"
      walk_at "g0"
      exact h
    · walk_at "cm"
      walk_at "g0"
      exact h
    rw [show (names.filter fun _ => true) = names from List.filter_eq_self.mpr fun _ _ => rfl]
    walk_at "g0"
    refine k_sorted (by omega) fun ns' h1' h2' => ?_
    refine k_forget 0 ?_
    obtain rfl : ns' = ns := sorted_eq (h1'.trans h1.symm) h2' h2
    refine k_forL (qs := ns'.map G.rI) (T := Nat) (fun i s => s = i) (fun _ => [some (rLs (evs.map rEv)), some (rLs (names.map G.rI)), some (rLs (ed.map rPr)), some (rA p), some (G.rI a), none, none]) (fun i => oLs p (((pairsOf (ns'.take j) ns' ++ (ns'.take i).map fun b => (a, b)).filter fun p => decide (p ∈ ed)).map rPr) :: fr) 0 rfl (by walk_at "le") (by rw [List.take_zero, List.map_nil, List.append_nil]; rfl) ?_ ?_
    · rintro i q gh2 m N2 hq2 rfl hN2
      obtain ⟨b, hb, rfl⟩ := map_get hq2
      have et : (ns'.take (m + 1)).map (fun b => (a, b)) = (ns'.take m).map (fun b => (a, b)) ++ [(a, b)] := by rw [take_snoc hb, List.map_append]; rfl
      have hl2 : ((pairsOf (ns'.take j) ns' ++ (ns'.take m).map fun b => (a, b)).filter fun p => decide (p ∈ ed)).length ≤ 10000 := by
        refine Nat.le_trans (List.length_filter_le _ _) ?_
        rw [List.length_append, pairsOf_len, List.length_map, List.length_take, List.length_take]
        have : min j ns'.length * ns'.length ≤ 20 * 20 := Nat.mul_le_mul (by omega) (by omega)
        omega
      walk_at "g0"
      refine k_inPr ?_
      walk_at "g0"
      refine k_ifD (fun h => ?_) (fun h => ?_)
      · walk_at "g0"
        refine k_le (by walk_at "le") ?_ (hN2 (m + 1) rfl)
        rw [et, ← List.append_assoc, List.filter_append (pairsOf (ns'.take j) ns' ++ (ns'.take m).map fun b => (a, b)), List.map_append, List.filter_cons_of_pos (by simpa using h)]
        rfl
      · walk_at "g0"
        refine k_le (by walk_at "le") ?_ (hN2 (m + 1) rfl)
        rw [et, ← List.append_assoc, List.filter_append (pairsOf (ns'.take j) ns' ++ (ns'.take m).map fun b => (a, b)), List.map_append, List.filter_cons_of_neg (by simpa using h), List.filter_nil, List.map_nil, List.append_nil]
    · rintro m rfl
      rw [List.length_map, List.take_length]
      walk_at "g0"
      refine k_le (by walk_at "le") ?_ (hN (j + 1) rfl)
      rw [take_snoc ha, pairsOf_snoc]
  · rintro j rfl
    rw [List.length_map, List.take_length]
    walk_at "g0"
    refine n_frzT ?_
    exact k_fin hR _ ⟨ns, ed, h1, h2, hed, rfl⟩ (fun _ h => h)

end


/-! _law_reads -/
def ct__law_reads : Ct where
  δ := List Ev
  ε := Unit
  ok d := d.length ≤ 50
  pre d := [rLs (d.map rEv)]
  own d := []
  post d e := True
  ret d _ := rLs ((readsOf d).map rRd)
  out d _ := []
section
variable {P : Program} {w : World} {K : PySem.W.Frag} {mg : Str → Option Value} {base : Heap}
set_option maxHeartbeats 4000000 in
theorem ok__law_reads (T : Txt K mg)  : Cal P w K mg base 1 "_law_reads" (Fn ct__law_reads) [] := by
  haveI : FldI K (He.ga K "Shape") "_listed" := ⟨T.c_Shape, T.n_Shape__listed⟩
  haveI : FldI K (He.ga K "Shape") "_marks" := ⟨T.c_Shape, T.n_Shape__marks⟩
  haveI : FldI K (He.ga K "Web") "shape" := ⟨T.c_Web, T.n_Web_shape⟩
  haveI : FldI K (He.ga K "Web") "_rows" := ⟨T.c_Web, T.n_Web__rows⟩
  haveI : FldI K (He.ga K "Web") "_numbers" := ⟨T.c_Web, T.n_Web__numbers⟩
  haveI : FldI K (He.ga K "Standing") "web" := ⟨T.c_Standing, T.n_Standing_web⟩
  haveI : FldI K (He.ga K "Standing") "_modes" := ⟨T.c_Standing, T.n_Standing__modes⟩
  haveI : FldI K (He.ga K "Standing") "_holds" := ⟨T.c_Standing, T.n_Standing__holds⟩
  haveI : FldI K (He.ga K "Standing") "_loose" := ⟨T.c_Standing, T.n_Standing__loose⟩
  haveI : FldI K (He.ga K "Weaving") "web" := ⟨T.c_Weaving, T.n_Weaving_web⟩
  haveI : FldI K (He.ga K "Weaving") "_events" := ⟨T.c_Weaving, T.n_Weaving__events⟩
  haveI : FldI K (He.ga K "Weaving") "_standings" := ⟨T.c_Weaving, T.n_Weaving__standings⟩
  haveI : FldI K (He.ga K "Weaving") "_lockers" := ⟨T.c_Weaving, T.n_Weaving__lockers⟩
  haveI : FldI K (He.ga K "Weaving") "_edges" := ⟨T.c_Weaving, T.n_Weaving__edges⟩
  haveI := T.v_Shape_MARKS
  haveI := T.v_Shape_PARENTS
  haveI := T.v_Web_MOST
  haveI := T.i_DEEDS
  haveI := T.i_MODES
  refine calD T.f__law_reads T.g__law_reads sc__law_reads (fun _ _ _ _ _ _ us hl => match us, hl with | [_], _ => rfl) (fun _ => rfl) (fun cdv A outer s H E hr => ?_)
  have hu := hu_of hr
  have hu64 := hu64_of hr
  have hu65 := hu65_of hr
  refine ⟨_, (pss_cons (ps_set (i := 1) sc__law_reads.nd rfl (by first | exact Or.inl rfl | exact Or.inr rfl) (pe_lst pa_nil))
    (pss_cons (ps_set (i := 2) sc__law_reads.nd rfl (by first | exact Or.inl rfl | exact Or.inr rfl) pe_dnewK)
    (pss_cons (ps_for PassesOwn.never rfl (piL K (pv 0)) (pg_name (i := 3) sc__law_reads.nd rfl (by first | exact Or.inl rfl | exact Or.inr rfl))
    (pss_cons (ps_set (i := 4) sc__law_reads.nd rfl (by first | exact Or.inl rfl | exact Or.inr rfl) (pe_ix (ixU K) (pe_ix (ixU K) (pv 3) pe_int (fun _ _ => rfl)) pe_int (fun _ _ => rfl)))
    (pss_cons (ps_if (pt_cmpR (neU K hu64) (pe_ix (ixU K) (pe_ix (ixU K) (pv 3) pe_int (fun _ _ => rfl)) pe_int (fun _ _ => rfl)) pe_str (nomark _)) (pss_one (ps_expr (pe_bm PySem.F.plainAttrs_list PySem.F.slot_list_append PySem.F.type_list_append mt_append (pv 1) (pa_cons (pe_tup (pa_cons (pe_ix (ixU K) (pv 3) pe_int (fun _ _ => rfl)) (pa_cons (pv 4) (pa_cons (pe_dget2 hu (pv 2) (pv 4) (pe_un un_neg pe_int) ⟨rfl, rfl, rfl, rfl⟩) pa_nil)))) pa_nil)))) pss_nil)
    (pss_one (ps_if (pt_cmpR (eqU K hu64) (pe_ix (ixU K) (pe_ix (ixU K) (pv 3) pe_int (fun _ _ => rfl)) pe_int (fun _ _ => rfl)) pe_str (nomark _)) (pss_one (ps_dput hu (pv 2) (pv 4) (pe_ix (ixU K) (pv 3) pe_int (fun _ _ => rfl)) rfl)) pss_nil)))))
    (pss_one (ps_ret (pv 1)))))), ?_⟩
  rintro (evs : List Ev) L g fr Q o hR
  have o : evs.length ≤ 50 := o
  show Gk L [some (rLs (evs.map rEv)), none, none, none, none] [g] fr _
  walk_at "g0"
  rename_i p q
  refine k_forL (qs := evs.map rEv) (T := Nat) (fun i s => s = i) (fun _ => [some (rLs (evs.map rEv)), some (rA p), some (rA q), none, none]) (fun i => oDk q (lastKV (evs.take i)) :: oLs p ((readsOf (evs.take i)).map rRd) :: fr) 0 rfl (by walk_at "le") rfl ?_ ?_
  · rintro i r gh j N hq rfl hN
    obtain ⟨⟨n, ⟨dd, t⟩⟩, he, rfl⟩ := map_get hq
    have ht := take_snoc he
    have hl1 : (lastKV (evs.take j)).length ≤ 10000 := by
      unfold lastKV; rw [kvOf_len]
      have := ownedT_len (evs.take j)
      rw [List.length_take] at this
      omega
    have hl2 : (readsOf (evs.take j)).length ≤ 10000 := by
      have := readsOf_len (evs.take j)
      rw [List.length_take] at this
      omega
    show Gk L _ (rTp [G.rI n, rTp [rS dd.s, G.rI t]] :: _) _ _
    walk_at "g0"
    refine k_ifN (fun h => ?_) (fun h => ?_)
    · have hdd : dd ≠ .drop := fun e => h (by rw [e]; rfl)
      have hk : isLk (⟨n, ⟨dd, t⟩⟩ : Ev) = true := isLk_iff.mpr hdd
      walk_at "g0"
      refine k_dget2k ?_
      rw [last_get]
      walk_at "g0"
      rw [show (readsOf (evs.take j)).map rRd ++ [rTp [G.rI n, G.rI t, G.rI (lastO (evs.take j) t)]] = (readsOf (evs.take (j + 1))).map rRd from by
        rw [ht, readsOf_snoc, if_pos hk, List.map_append]; rfl]
      refine k_ifD (fun h => ?_) (fun h => ?_)
      · have ho : dd = .own := Deed.s_inj h
        walk_at "g0"
        rw [show putKR (lastKV (evs.take j)) (Sum.inl t) (G.rI n) = lastKV (evs.take (j + 1)) from by rw [ht]; exact last_own (e := ⟨n, ⟨dd, t⟩⟩) ho]
        refine k_le (by walk_at "le") rfl (hN (j + 1) ?_)
        rfl
      · have ho : dd ≠ .own := fun e => h (by rw [e]; rfl)
        walk_at "g0"
        rw [show lastKV (evs.take j) = lastKV (evs.take (j + 1)) from by rw [ht]; exact (last_other (e := ⟨n, ⟨dd, t⟩⟩) ho).symm]
        refine k_le (by walk_at "le") rfl (hN (j + 1) ?_)
        rfl
    · have hdd : dd = .drop := Deed.s_inj h
      have hk : isLk (⟨n, ⟨dd, t⟩⟩ : Ev) = false := by rw [hdd]; rfl
      walk_at "g0"
      rw [show decide (dd.s = Str.ofString "own") = false from by rw [hdd]; decide]
      refine k_ifF ?_
      walk_at "g0"
      rw [show lastKV (evs.take j) = lastKV (evs.take (j + 1)) from by rw [ht]; exact (last_other (e := ⟨n, ⟨dd, t⟩⟩) (by rw [hdd]; exact fun h => nomatch h)).symm]
      rw [show (readsOf (evs.take j)) = (readsOf (evs.take (j + 1))) from by
        rw [ht, readsOf_snoc, hk]; simp]
      refine k_le (by walk_at "le") rfl (hN (j + 1) ?_)
      rfl
  · rintro j rfl
    rw [List.length_map, List.take_length]
    walk_at "g0"
    refine n_forget 0 ?_
    refine n_frzT ?_
    exact k_fin hR () trivial (fun _ h => h)

end


/-! _law_followers -/
structure LfoD where
  evs : List Ev
  ns : List Int
structure LfoOk (d : LfoD) : Prop where
  len : d.evs.length ≤ 50
  nd : d.ns.Nodup
  ns : d.ns.length ≤ 20
  four : (namesOf d.evs).length ≤ 4
def ct__law_followers : Ct where
  δ := LfoD
  ε := List Int
  ok := LfoOk
  pre d := [rLs (d.evs.map rEv), rLs (d.ns.map G.rI)]
  own d := []
  post d e := FolOk d.evs d.ns e
  ret d e := rLs (e.map G.rI)
  out d e := []
section
variable {P : Program} {w : World} {K : PySem.W.Frag} {mg : Str → Option Value} {base : Heap}
set_option maxHeartbeats 4000000 in
theorem ok__law_followers (T : Txt K mg) (C__law_reads : Cal P w K mg base 1 "_law_reads" (Fn ct__law_reads) []) : Cal P w K mg base 2 "_law_followers" (Fn ct__law_followers) [] := by
  haveI : FldI K (He.ga K "Shape") "_listed" := ⟨T.c_Shape, T.n_Shape__listed⟩
  haveI : FldI K (He.ga K "Shape") "_marks" := ⟨T.c_Shape, T.n_Shape__marks⟩
  haveI : FldI K (He.ga K "Web") "shape" := ⟨T.c_Web, T.n_Web_shape⟩
  haveI : FldI K (He.ga K "Web") "_rows" := ⟨T.c_Web, T.n_Web__rows⟩
  haveI : FldI K (He.ga K "Web") "_numbers" := ⟨T.c_Web, T.n_Web__numbers⟩
  haveI : FldI K (He.ga K "Standing") "web" := ⟨T.c_Standing, T.n_Standing_web⟩
  haveI : FldI K (He.ga K "Standing") "_modes" := ⟨T.c_Standing, T.n_Standing__modes⟩
  haveI : FldI K (He.ga K "Standing") "_holds" := ⟨T.c_Standing, T.n_Standing__holds⟩
  haveI : FldI K (He.ga K "Standing") "_loose" := ⟨T.c_Standing, T.n_Standing__loose⟩
  haveI : FldI K (He.ga K "Weaving") "web" := ⟨T.c_Weaving, T.n_Weaving_web⟩
  haveI : FldI K (He.ga K "Weaving") "_events" := ⟨T.c_Weaving, T.n_Weaving__events⟩
  haveI : FldI K (He.ga K "Weaving") "_standings" := ⟨T.c_Weaving, T.n_Weaving__standings⟩
  haveI : FldI K (He.ga K "Weaving") "_lockers" := ⟨T.c_Weaving, T.n_Weaving__lockers⟩
  haveI : FldI K (He.ga K "Weaving") "_edges" := ⟨T.c_Weaving, T.n_Weaving__edges⟩
  haveI := T.v_Shape_MARKS
  haveI := T.v_Shape_PARENTS
  haveI := T.v_Web_MOST
  haveI := T.i_DEEDS
  haveI := T.i_MODES
  refine calD T.f__law_followers T.g__law_followers sc__law_followers (fun _ _ _ _ _ _ us hl => match us, hl with | [_, _], _ => rfl) (fun _ => rfl) (fun cdv A outer s H E hr => ?_)
  have hu := hu_of hr
  have hu64 := hu64_of hr
  have hu65 := hu65_of hr
  refine ⟨_, (pss_cons (ps_set (i := 2) sc__law_followers.nd rfl (by first | exact Or.inl rfl | exact Or.inr rfl) (pe_lc (own := [("_law_event", 6)]) rfl sc__law_followers.nd (piL K (pv 0)) (blkOk_by (own := [("_law_event", 6)]) (N := N__law_followers) (sc := (defScope s__law_followers)) (by decide +kernel)) (fun _ _ _ _ _ => (pg_name (i := 6) sc__law_followers.nd rfl (by first | exact Or.inl rfl | exact Or.inr rfl))) (fun _ _ _ _ _ => pts_nil) (fun _ _ _ _ _ => (pe_ix (ixU K) (pv 6) pe_int (fun _ _ => rfl)))))
    (pss_cons (ps_setLc (i := 3) (own := [("_law_name", 7)]) rfl sc__law_followers.nd rfl rfl (sw_true rfl rfl rfl (by decide +kernel)) (piL K (pv 1)) (blkOk_by (own := [("_law_name", 7)]) (N := N__law_followers) (sc := (defScope s__law_followers)) (by decide +kernel)) (fun _ _ _ _ _ => (pg_name (i := 7) sc__law_followers.nd rfl (by first | exact Or.inl rfl | exact Or.inr rfl))) (fun _ _ _ _ _ => pts_one (pt_cmpR (inU K hu65) (pv 7) (pv 2) rfl)) (fun _ _ _ _ _ => (pv 7)))
    (pss_cons (ps_for PassesOwn.never rfl (pi_range1 (by rfl) T.z_range (pa_cons pe_int pa_nil)) (pg_name (i := 4) sc__law_followers.nd rfl (by first | exact Or.inl rfl | exact Or.inr rfl))
    (pss_one (ps_for PassesOwn.never rfl (piL K (pe_c C__law_reads hr (by decide) (by rfl) (pa_cons (pv 0) pa_nil))) (pg_name (i := 5) sc__law_followers.nd rfl (by first | exact Or.inl rfl | exact Or.inr rfl))
    (pss_one (ps_if (PW.pt (pw_and (pt_cmpR (inU K hu65) (pe_ix (ixU K) (pv 5) pe_int (fun _ _ => rfl)) (pv 3) rfl) (pw_and1 (pt_cmpR (notInU K hu65) (pe_ix (ixU K) (pv 5) pe_int (fun _ _ => rfl)) (pv 3) rfl)))) (pss_one (ps_expr (pe_bm PySem.F.plainAttrs_list PySem.F.slot_list_append PySem.F.type_list_append mt_append (pv 3) (pa_cons (pe_ix (ixU K) (pv 5) pe_int (fun _ _ => rfl)) pa_nil)))) pss_nil)))))
    (pss_one (ps_ret (pe_callB (sortedU K) (by rfl) T.z_sorted (by decide +kernel) (pa_cons (pe_lc (own := [("_law_name", 7)]) rfl sc__law_followers.nd (piL K (pv 3)) (blkOk_by (own := [("_law_name", 7)]) (N := N__law_followers) (sc := (defScope s__law_followers)) (by decide +kernel)) (fun _ _ _ _ _ => (pg_name (i := 7) sc__law_followers.nd rfl (by first | exact Or.inl rfl | exact Or.inr rfl))) (fun _ _ _ _ _ => pts_nil) (fun _ _ _ _ _ => (pe_callTy c_int (by rfl) T.z_int (by decide +kernel) (pa_cons (pv 7) pa_nil)))) pa_nil))))))), ?_⟩
  rintro ⟨evs, ns⟩ L g fr Q ⟨o1, o2, o3, o4⟩ hR
  dsimp only at o1 o2 o3 o4
  show Gk L [some (rLs (evs.map rEv)), some (rLs (ns.map G.rI)), none, none, none, none, none, none] [g] fr _
  walk_at "g0"
  refine k_lcL (w := ⟨rfl⟩) (xs := evs) (t := rEv) (fun _ => true) (fun e => G.rI e.name) _  (by omega) (fun y => gok_nm rfl (by decide)) (fun y hy gx D acc K2 h => ?_) (fun y hy hp gx D acc K1 h => ?_) (fun D => ?_)
  · walk_at "cm"
    walk_at "g0"
    exact h
  · walk_at "cm"
    walk_at "g0"
    exact h
  refine n_frzT ?_
  rw [show (evs.filter fun _ => true) = evs from List.filter_eq_self.mpr fun _ _ => rfl, show (evs.map fun e => G.rI e.name) = (evs.map Ev.name).map G.rI from by rw [List.map_map]; rfl]
  walk_at "g0"
  refine k_lcL (w := ⟨rfl⟩) (xs := ns) (t := G.rI) (fun n => decide (n ∈ evs.map Ev.name)) (fun n => G.rI n) _  (by omega) (fun y => gok_nm rfl (by decide)) (fun y hy gx D acc K2 h => ?_) (fun y hy hp gx D acc K1 h => ?_) (fun D => ?_)
  · walk_at "cm"
    walk_at "g0"
    exact h
  · walk_at "cm"
    walk_at "g0"
    exact h
  rename_i D
  walk_at "g0"
  refine k_forRn (T := List Int) (fun k f => FolAt evs ns f ∧ (Closed (readsOf evs) f ∨ k ≤ f.length)) (fun _ => [some (rLs (evs.map rEv)), some (rLs (ns.map G.rI)), some (rLs ((evs.map Ev.name).map G.rI)), some (rA D), none, none, none, none]) (fun f => oLs D (f.map G.rI) :: fr) (ns.filter fun n => decide (n ∈ evs.map Ev.name)) ?z ⟨FolAt.start2 o2, .inr (Nat.zero_le _)⟩ (by walk_at "le") rfl ?_ ?_
  case z => omega
  · rintro k fs N hk ⟨(j1 : FolAt evs ns fs), j2⟩ hN
    walk_at "g0"
    refine k_callF (c := ct__law_reads) (fr := oLs D (fs.map G.rI) :: fr) evs rfl rfl o1 ?_
    rintro - -
    show Gk L _ (rLs ((readsOf evs).map rRd) :: _) (oLs D (fs.map G.rI) :: fr) _
    refine k_forL (qs := (readsOf evs).map rRd) (T := List Int) (fun i f2 => FolAt evs ns f2 ∧ (f2 = fs ∧ Closed ((readsOf evs).take i) fs ∨ fs.length < f2.length) ∧ (Closed (readsOf evs) fs → f2 = fs)) (fun _ => [some (rLs (evs.map rEv)), some (rLs (ns.map G.rI)), some (rLs ((evs.map Ev.name).map G.rI)), some (rA D), none, none, none, none]) (fun f => oLs D (f.map G.rI) :: fr) fs ⟨j1, .inl ⟨rfl, fun r hr => by simp at hr⟩, fun _ => rfl⟩ (by walk_at "le") rfl ?_ ?_
    · rintro i q gh f2 N2 hq ⟨(q1 : FolAt evs ns f2), q2, q3⟩ hN2
      obtain ⟨r, hr, rfl⟩ := map_get hq
      have hrm := List.mem_of_getElem? hr
      have htk := take_snoc hr
      have hl2 := q1.len
      walk_at "g0"
      have keep : (r.src ∈ f2 → r.name ∈ f2) → (f2 = fs ∧ Closed ((readsOf evs).take (i + 1)) fs ∨ fs.length < f2.length) := fun hh => by
        rcases q2 with ⟨rfl, q2⟩ | q2
        · refine .inl ⟨rfl, fun x hx hs => ?_⟩
          rw [htk] at hx
          rcases List.mem_append.mp hx with z | z
          · exact q2 x z hs
          · rw [List.mem_singleton.mp z] at hs ⊢; exact hh hs
        · exact .inr q2
      by_cases h1 : r.src ∈ f2
      · rw [decide_eq_true h1]
        refine k_andT ?_
        walk_at "g0"
        by_cases h2 : r.name ∈ f2
        · rw [decide_eq_true h2]
          refine k_ifF ?_
          walk_at "g0"
          refine k_le (by walk_at "le") rfl (hN2 f2 ?_)
          exact ⟨q1, keep fun _ => h2, q3⟩
        · rw [decide_eq_false h2]
          refine k_ifT ?_
          walk_at "g0"
          refine k_le (by walk_at "le") rfl (hN2 (f2 ++ [r.name]) ?_)
          refine ⟨q1.add hrm h1 h2, .inr ?_, fun hc => ?_⟩
          · rw [List.length_append, List.length_singleton]
            rcases q2 with ⟨rfl, _⟩ | q2 <;> omega
          · have := q3 hc
            subst this
            exact absurd (hc r hrm h1) h2
      · rw [decide_eq_false h1]
        walk_at "g0"
        refine k_le (by walk_at "le") rfl (hN2 f2 ?_)
        exact ⟨q1, keep fun h => absurd h h1, q3⟩
    · rintro f2 ⟨q1, q2, q3⟩
      rw [List.length_map, List.take_length] at q2
      walk_at "g0"
      refine k_le (by walk_at "le") rfl (hN f2 ?_)
      refine ⟨q1, ?_⟩
      rcases j2 with hc | hl
      · rw [q3 hc]; exact .inl hc
      · rcases q2 with ⟨rfl, q2⟩ | q2
        · exact .inl q2
        · exact .inr (by omega)
  · rintro fs ⟨(j1 : FolAt evs ns fs), j2⟩
    have hl := j1.len
    have hc : Closed (readsOf evs) fs := by
      rcases j2 with j2 | j2
      · exact j2
      · have : (5 : Int).toNat = 5 := rfl
        omega
    walk_at "g0"
    refine k_lcO (w := ⟨rfl⟩) (xs := fs) (t := G.rI) (fun _ => true) (fun n => G.rI n) _  (by omega) (fun y => gok_nm rfl (by decide)) (fun y hy gx D acc K2 h => ?_) (fun y hy hp gx D acc K1 h => ?_) (fun D => ?_)
    · walk_at "cm"
      walk_at "g0"
      exact h
    · walk_at "cm"
      walk_at "g0"
      exact h
    rename_i D2
    rw [show (fs.filter fun _ => true) = fs from List.filter_eq_self.mpr fun _ _ => rfl]
    walk_at "g0"
    refine k_sorted (by omega) fun ns' h1 h2 => ?_
    refine k_forget 0 ?_
    refine k_forget 0 ?_
    exact k_fin hR ns' (j1.fin hc h1 h2) (fun _ h => h)

end


/-! _law_same -/
def ct__law_same (K : PySem.W.Frag) : Ct := sameCt K 6
section
variable {P : Program} {w : World} {K : PySem.W.Frag} {mg : Str → Option Value} {base : Heap}
set_option maxHeartbeats 4000000 in
theorem step__law_same (T : Txt K mg) {k n : Nat} (C_rec : Cal P w K mg base k "_law_same" (Fn (sameCt K n)) []) : Cal P w K mg base (k + 1) "_law_same" (Fn (sameCt K (n + 1))) [] := by
  haveI : FldI K (He.ga K "Shape") "_listed" := ⟨T.c_Shape, T.n_Shape__listed⟩
  haveI : FldI K (He.ga K "Shape") "_marks" := ⟨T.c_Shape, T.n_Shape__marks⟩
  haveI : FldI K (He.ga K "Web") "shape" := ⟨T.c_Web, T.n_Web_shape⟩
  haveI : FldI K (He.ga K "Web") "_rows" := ⟨T.c_Web, T.n_Web__rows⟩
  haveI : FldI K (He.ga K "Web") "_numbers" := ⟨T.c_Web, T.n_Web__numbers⟩
  haveI : FldI K (He.ga K "Standing") "web" := ⟨T.c_Standing, T.n_Standing_web⟩
  haveI : FldI K (He.ga K "Standing") "_modes" := ⟨T.c_Standing, T.n_Standing__modes⟩
  haveI : FldI K (He.ga K "Standing") "_holds" := ⟨T.c_Standing, T.n_Standing__holds⟩
  haveI : FldI K (He.ga K "Standing") "_loose" := ⟨T.c_Standing, T.n_Standing__loose⟩
  haveI : FldI K (He.ga K "Weaving") "web" := ⟨T.c_Weaving, T.n_Weaving_web⟩
  haveI : FldI K (He.ga K "Weaving") "_events" := ⟨T.c_Weaving, T.n_Weaving__events⟩
  haveI : FldI K (He.ga K "Weaving") "_standings" := ⟨T.c_Weaving, T.n_Weaving__standings⟩
  haveI : FldI K (He.ga K "Weaving") "_lockers" := ⟨T.c_Weaving, T.n_Weaving__lockers⟩
  haveI : FldI K (He.ga K "Weaving") "_edges" := ⟨T.c_Weaving, T.n_Weaving__edges⟩
  haveI := T.v_Shape_MARKS
  haveI := T.v_Shape_PARENTS
  haveI := T.v_Web_MOST
  haveI := T.i_DEEDS
  haveI := T.i_MODES
  refine calD T.f__law_same T.g__law_same sc__law_same (fun _ _ _ _ _ _ us hl => match us, hl with | [_, _], _ => rfl) (fun _ => rfl) (fun cdv A outer s H E hr => ?_)
  have hu := hu_of hr
  have hu64 := hu64_of hr
  have hu65 := hu65_of hr
  refine ⟨_, (pss_cons (ps_if (pt_cmpR op_isN (pv 1) pe_non (nomark _)) (pss_one (ps_ret (pe_cmpR op_isN (pv 0) pe_non (nomark _)))) pss_nil)
    (pss_cons (ps_if (pt_val (pe_callB (isi2 K) (by rfl) T.z_isinstance (by decide +kernel) (pa_cons (pv 1) (pa_cons (pe_tup (pa_cons (pe_bltn (v := .ty "int") (by rfl) T.z_int rfl rfl) (pa_cons (pe_bltn (v := .ty "str") (by rfl) T.z_str rfl rfl) pa_nil))) pa_nil)))) (pss_cons (ps_if (pt_not (pt_val (pe_callB (isi2 K) (by rfl) T.z_isinstance (by decide +kernel) (pa_cons (pv 0) (pa_cons (pe_tup (pa_cons (pe_bltn (v := .ty "int") (by rfl) T.z_int rfl rfl) (pa_cons (pe_bltn (v := .ty "str") (by rfl) T.z_str rfl rfl) pa_nil))) pa_nil))))) (pss_one (ps_ret pe_bl)) pss_nil)
    (pss_cons (ps_if (pt_cmpR (neU K hu64) (pe_callB (isi1 K) (by rfl) T.z_isinstance (by decide +kernel) (pa_cons (pv 0) (pa_cons (pe_bltn (v := .ty "str") (by rfl) T.z_str rfl rfl) pa_nil))) (pe_callB (isi1 K) (by rfl) T.z_isinstance (by decide +kernel) (pa_cons (pv 1) (pa_cons (pe_bltn (v := .ty "str") (by rfl) T.z_str rfl rfl) pa_nil))) (nomark _)) (pss_one (ps_ret pe_bl)) pss_nil)
    (pss_one (ps_ret (pe_and (pe_cmpR (eqU K hu64) (pe_callB (isi1 K) (by rfl) T.z_isinstance (by decide +kernel) (pa_cons (pv 0) (pa_cons (pe_bltn (v := .ty "bool") (by rfl) T.z_bool rfl rfl) pa_nil))) (pe_callB (isi1 K) (by rfl) T.z_isinstance (by decide +kernel) (pa_cons (pv 1) (pa_cons (pe_bltn (v := .ty "bool") (by rfl) T.z_bool rfl rfl) pa_nil))) (nomark _)) (pe_one (pe_cmpR (eqU K hu64) (pv 0) (pv 1) (nomark _)))))))) pss_nil)
    (pss_cons (ps_if (PW.pt (pw_or (pt_not (pt_val (pe_callB (isi2 K) (by rfl) T.z_isinstance (by decide +kernel) (pa_cons (pv 0) (pa_cons (pe_tup (pa_cons (pe_bltn (v := .ty "list") (by rfl) T.z_list rfl rfl) (pa_cons (pe_bltn (v := .ty "tuple") (by rfl) T.z_tuple rfl rfl) pa_nil))) pa_nil))))) (pw_or1 (pt_cmpR (neU K hu64) (pe_callB (isi1 K) (by rfl) T.z_isinstance (by decide +kernel) (pa_cons (pv 0) (pa_cons (pe_bltn (v := .ty "list") (by rfl) T.z_list rfl rfl) pa_nil))) (pe_callB (isi1 K) (by rfl) T.z_isinstance (by decide +kernel) (pa_cons (pv 1) (pa_cons (pe_bltn (v := .ty "list") (by rfl) T.z_list rfl rfl) pa_nil))) (nomark _))))) (pss_one (ps_ret pe_bl)) pss_nil)
    (pss_cons (ps_if (pt_cmpR (neU K hu64) (pe_callB (lenU K) (by rfl) T.z_len PySem.boot_len (pa_cons (pv 0) pa_nil)) (pe_callB (lenU K) (by rfl) T.z_len PySem.boot_len (pa_cons (pv 1) pa_nil)) (nomark _)) (pss_one (ps_ret pe_bl)) pss_nil)
    (pss_one (ps_ret (pe_cmpR (eqU K hu64) (pe_callB (lenU K) (by rfl) T.z_len PySem.boot_len (pa_cons (pe_lc (own := [("_law_k", 2)]) rfl sc__law_same.nd (pi_range1 (by rfl) T.z_range (pa_cons (pe_callB (lenU K) (by rfl) T.z_len PySem.boot_len (pa_cons (pv 1) pa_nil)) pa_nil)) (blkOk_by (own := [("_law_k", 2)]) (N := N__law_same) (sc := (defScope s__law_same)) (by decide +kernel)) (fun _ _ _ _ _ => (pg_name (i := 2) sc__law_same.nd rfl (by first | exact Or.inl rfl | exact Or.inr rfl))) (fun _ _ _ _ _ => pts_one (pt_not (pt_val (pe_c C_rec hr (Nat.le_refl _) (by rfl) (pa_cons (pe_ix (ixU K) (pv 0) (pv 2) (fun _ _ => rfl)) (pa_cons (pe_ix (ixU K) (pv 1) (pv 2) (fun _ _ => rfl)) pa_nil)))))) (fun _ _ _ _ _ => (pv 2))) pa_nil)) pe_int (nomark _)))))))), ?_⟩
  rintro ⟨d1, d2⟩ L g fr Q ⟨o1, o2⟩ hR
  have o1 : DOk (n + 1) d1 := o1
  have o2 : DOk (n + 1) d2 := o2
  show Gk L [some (rDat K d1), some (rDat K d2), none] [g] fr _
  have fin : ∀ {rs : List (Option R)} (b : Bool), (b = true ↔ d1 = d2) → Gk L rs [rB b, g] fr (rtk (D0 Q)) := fun {rs} b hb => k_fin hR b hb (fun _ h => h)
  have none_i : ∀ i : Int, ∀ B, ¬ (G.rI i).p B .non := fun i B h => by cases h
  have none_s : ∀ x : Str, ∀ B, ¬ (rS x).p B .non := fun i B h => by cases h
  have none_l : ∀ ds, ∀ B, ¬ (rDat K (.list ds)).p B .non := fun i B h => by cases h
  have none_t : ∀ ds, ∀ B, ¬ (rDat K (.tuple ds)).p B .non := fun i B h => by cases h
  cases o2 with
  | int j =>
    refine k_slotI 1 (q' := G.rI j) (fun B v h => by cases h; rfl) ?_
    walk_at "g0"
    rw [decide_eq_false (fun h => nomatch h : ¬ V.int j = V.non)]
    refine k_ifF ?_
    walk_at "g0"
    cases o1 with
    | int i =>
      refine k_slotI 0 (q := rDat K (.int i)) (q' := G.rI i) (fun B v h => by cases h; rfl) ?_
      walk_at "gB"
      refine k_andV (c := decide (i = j)) (fun _ K' h => ?_) ?_
      · walk_at "g0"
        exact h
      · exact fin _ (by simp)
    | str x =>
      refine k_slotI 0 (q := rDat K (.str x)) (q' := rS x) (fun B v h => by cases h; rfl) ?_
      walk_at "gB"
      exact fin false (by simp)
    | lst h1 h2 =>
      walk_at "gB"
      exact fin false (by simp)
    | tup h1 h2 =>
      walk_at "gB"
      exact fin false (by simp)
  | str y =>
    refine k_slotI 1 (q' := rS y) (fun B v h => by cases h; rfl) ?_
    walk_at "g0"
    rw [decide_eq_false (fun h => nomatch h : ¬ V.str y = V.non)]
    refine k_ifF ?_
    walk_at "g0"
    cases o1 with
    | int i =>
      refine k_slotI 0 (q := rDat K (.int i)) (q' := G.rI i) (fun B v h => by cases h; rfl) ?_
      walk_at "gB"
      exact fin false (by simp)
    | str x =>
      refine k_slotI 0 (q := rDat K (.str x)) (q' := rS x) (fun B v h => by cases h; rfl) ?_
      walk_at "gB"
      refine k_andV (c := decide (x = y)) (fun _ K' h => ?_) ?_
      · walk_at "g0"
        exact h
      · exact fin _ (by simp)
    | lst h1 h2 =>
      walk_at "gB"
      exact fin false (by simp)
    | tup h1 h2 =>
      walk_at "gB"
      exact fin false (by simp)
  | @lst _ es k1 k2 =>
    walk_at "g0"
    refine k_isND (none_l _) ?_
    cases o1 with
    | int i =>
      refine k_slotI 0 (q := rDat K (.int i)) (q' := G.rI i) (fun B v h => by cases h; rfl) ?_
      walk_at "gB"
      exact fin false (by simp)
    | str x =>
      refine k_slotI 0 (q := rDat K (.str x)) (q' := rS x) (fun B v h => by cases h; rfl) ?_
      walk_at "gB"
      exact fin false (by simp)
    | @lst _ ds h1 h2 =>
      walk_at "gB"
      refine k_ifN (fun hne => ?_) (fun heq => ?_)
      · walk_at "g0"
        exact fin false ⟨(fun h => nomatch h), fun h => by injection h with h; exact absurd (by rw [h] : (ds.length : Int) = es.length) hne⟩
      · have hl : ds.length = es.length := by omega
        walk_at "g0"
        refine k_lcR (w := ⟨rfl⟩) (by omega) (difAt ds es) (fun x => G.rI x) _  (fun y => gok_nm rfl (by decide)) (fun y hy gx D acc K2 h => ?_) (fun y hy hp gx D acc K1 h => ?_) (fun D => ?_)
        · walk_at "cm"
          have hy1 : 0 ≤ y ∧ y < (ds.length : Int) := by omega
          walk_at "g0"
          refine k_callF (c := sameCt K n) (fr := oLs D acc :: fr) (ds.getD y.toNat default, es.getD y.toNat default) rfl rfl ⟨DOk.mem h2 hy1, DOk.mem k2 hy⟩ ?_
          rintro (e : Bool) (he : e = true ↔ ds.getD y.toNat default = es.getD y.toNat default)
          have hde : difAt ds es y = !e := by
            unfold difAt
            congr 1
            cases e with
            | true => exact @decide_eq_true _ (Classical.propDecidable _) (he.mp rfl)
            | false => exact @decide_eq_false _ (Classical.propDecidable _) fun q => nomatch he.mpr q
          show Gk L _ (rB e :: _) (oLs D acc :: fr) _
          refine k_tb ?_
          rw [← hde]
          exact h
        · walk_at "cm"
          walk_at "g0"
          exact h
        walk_at "g0"
        refine k_forget 0 ?_
        refine fin _ ?_
        rw [dif_none hl]
        exact ⟨fun h => by rw [h], fun h => by injection h⟩
    | @tup _ ds h1 h2 =>
      walk_at "gB"
      exact fin false (by simp)
  | @tup _ es k1 k2 =>
    walk_at "g0"
    refine k_isND (none_t _) ?_
    cases o1 with
    | int i =>
      refine k_slotI 0 (q := rDat K (.int i)) (q' := G.rI i) (fun B v h => by cases h; rfl) ?_
      walk_at "gB"
      exact fin false (by simp)
    | str x =>
      refine k_slotI 0 (q := rDat K (.str x)) (q' := rS x) (fun B v h => by cases h; rfl) ?_
      walk_at "gB"
      exact fin false (by simp)
    | @lst _ ds h1 h2 =>
      walk_at "gB"
      exact fin false (by simp)
    | @tup _ ds h1 h2 =>
      walk_at "gB"
      refine k_ifN (fun hne => ?_) (fun heq => ?_)
      · walk_at "g0"
        exact fin false ⟨(fun h => nomatch h), fun h => by injection h with h; exact absurd (by rw [h] : (ds.length : Int) = es.length) hne⟩
      · have hl : ds.length = es.length := by omega
        walk_at "g0"
        refine k_lcR (w := ⟨rfl⟩) (by omega) (difAt ds es) (fun x => G.rI x) _  (fun y => gok_nm rfl (by decide)) (fun y hy gx D acc K2 h => ?_) (fun y hy hp gx D acc K1 h => ?_) (fun D => ?_)
        · walk_at "cm"
          have hy1 : 0 ≤ y ∧ y < (ds.length : Int) := by omega
          walk_at "g0"
          refine k_callF (c := sameCt K n) (fr := oLs D acc :: fr) (ds.getD y.toNat default, es.getD y.toNat default) rfl rfl ⟨DOk.mem h2 hy1, DOk.mem k2 hy⟩ ?_
          rintro (e : Bool) (he : e = true ↔ ds.getD y.toNat default = es.getD y.toNat default)
          have hde : difAt ds es y = !e := by
            unfold difAt
            congr 1
            cases e with
            | true => exact @decide_eq_true _ (Classical.propDecidable _) (he.mp rfl)
            | false => exact @decide_eq_false _ (Classical.propDecidable _) fun q => nomatch he.mpr q
          show Gk L _ (rB e :: _) (oLs D acc :: fr) _
          refine k_tb ?_
          rw [← hde]
          exact h
        · walk_at "cm"
          walk_at "g0"
          exact h
        walk_at "g0"
        refine k_forget 0 ?_
        refine fin _ ?_
        rw [dif_none hl]
        exact ⟨fun h => by rw [h], fun h => by injection h⟩
theorem ok__law_same (T : Txt K mg) : Cal P w K mg base 7 "_law_same" (Fn (ct__law_same K)) [] := by
  have base_ : Cal P w K mg base 1 "_law_same" (Fn (sameCt K 0)) [] := calD T.f__law_same T.g__law_same sc__law_same (fun _ _ _ _ _ _ us hl => match us, hl with | [_, _], _ => rfl) (fun _ => rfl) (fun cdv A outer s H E hr => ⟨_, pss_never, by
    rintro ⟨d1, d2⟩ L g fr Q ⟨o1, o2⟩ hR
    cases o1⟩)
  exact step__law_same T (step__law_same T (step__law_same T (step__law_same T (step__law_same T (step__law_same T base_)))))
end


/-! is_mark -/
def ct_is_mark : Ct where
  δ := Str
  ε := Unit
  ok d := isMk d
  pre d := [rS d]
  own _ := []
  post _ _ := True
  ret _ _ := rB true
  out _ _ := []
section
variable {P : Program} {w : World} {K : PySem.W.Frag} {mg : Str → Option Value} {base : Heap}
set_option maxHeartbeats 4000000 in
theorem ok_is_mark (T : Txt K mg)  : Cal P w K mg base 1 "is_mark" (Fn ct_is_mark) [] := by
  haveI : FldI K (He.ga K "Shape") "_listed" := ⟨T.c_Shape, T.n_Shape__listed⟩
  haveI : FldI K (He.ga K "Shape") "_marks" := ⟨T.c_Shape, T.n_Shape__marks⟩
  haveI : FldI K (He.ga K "Web") "shape" := ⟨T.c_Web, T.n_Web_shape⟩
  haveI : FldI K (He.ga K "Web") "_rows" := ⟨T.c_Web, T.n_Web__rows⟩
  haveI : FldI K (He.ga K "Web") "_numbers" := ⟨T.c_Web, T.n_Web__numbers⟩
  haveI : FldI K (He.ga K "Standing") "web" := ⟨T.c_Standing, T.n_Standing_web⟩
  haveI : FldI K (He.ga K "Standing") "_modes" := ⟨T.c_Standing, T.n_Standing__modes⟩
  haveI : FldI K (He.ga K "Standing") "_holds" := ⟨T.c_Standing, T.n_Standing__holds⟩
  haveI : FldI K (He.ga K "Standing") "_loose" := ⟨T.c_Standing, T.n_Standing__loose⟩
  haveI : FldI K (He.ga K "Weaving") "web" := ⟨T.c_Weaving, T.n_Weaving_web⟩
  haveI : FldI K (He.ga K "Weaving") "_events" := ⟨T.c_Weaving, T.n_Weaving__events⟩
  haveI : FldI K (He.ga K "Weaving") "_standings" := ⟨T.c_Weaving, T.n_Weaving__standings⟩
  haveI : FldI K (He.ga K "Weaving") "_lockers" := ⟨T.c_Weaving, T.n_Weaving__lockers⟩
  haveI : FldI K (He.ga K "Weaving") "_edges" := ⟨T.c_Weaving, T.n_Weaving__edges⟩
  haveI := T.v_Shape_MARKS
  haveI := T.v_Shape_PARENTS
  haveI := T.v_Web_MOST
  haveI := T.i_DEEDS
  haveI := T.i_MODES
  refine calD T.f_is_mark T.g_is_mark sc_is_mark (fun _ _ _ _ _ _ us hl => match us, hl with | [_], _ => rfl) (fun _ => rfl) (fun cdv A outer s H E hr => ?_)
  have hu := hu_of hr
  have hu64 := hu64_of hr
  have hu65 := hu65_of hr
  refine ⟨_, (pss_cons (ps_if (pt_not (pt_chain op_le op_le pe_int (pe_callB (lenU K) (by rfl) T.z_len PySem.boot_len (pa_cons (pv 0) pa_nil)) pe_int)) (pss_one (ps_ret pe_bl)) pss_nil)
    (pss_cons (ps_for PassesOwn.never rfl (pi_str (pv 0)) (pg_name (i := 1) sc_is_mark.nd rfl (by first | exact Or.inl rfl | exact Or.inr rfl))
    (pss_one (ps_if (pt_cmpR (notInU K hu65) (pv 1) (pe_gc (by rfl) T.k_LETTERS) rfl) (pss_one (ps_ret pe_bl)) pss_nil)))
    (pss_one (ps_ret pe_bl)))), ?_⟩
  rintro (x : Str) L g fr Q (hx : isMk x) hR
  obtain ⟨⟨h1, h2⟩, h3⟩ := hx
  have hl := len_cl x
  show Gk L [some (rS x), none] [g] fr _
  walk_at "g"
  refine k_chJ (c := decide ((x.length : Int) ≤ 8)) (fun _ K' h => ?_) ?_
  · walk_at "g0"
    exact h
  have e : (decide ((1:Int) ≤ x.length) && decide ((x.length : Int) ≤ 8)) = true := by
    rw [decide_eq_true (by omega : (1:Int) ≤ x.length), decide_eq_true (by omega : (x.length : Int) ≤ 8)]; rfl
  rw [e]
  refine k_tb ?_
  refine k_ifF ?_
  walk_at "g"
  refine k_forSn (T := Unit) (fun _ _ => True) (fun _ => [some (rS x), none]) (fun _ => fr) () trivial (by walk_at "le") rfl ?_ ?_
  · intro i _ N hi _ hN
    have hc : x.cps.getD i 0 ∈ abc.cps.toList := by
      refine h3 _ ?_
      rw [Array.getD_eq_getD_getElem?, Array.getElem?_eq_getElem hi]
      exact Array.getElem_mem_toList hi
    walk_at "g"
    · rename_i h
      exact absurd hc h
    · refine k_le (by walk_at "le") rfl (hN () ?_)
      trivial
  · intro _ _
    walk_at "g"
    exact k_fin hR () trivial (fun _ h => h)

end


/-! sound_row -/
structure SoundD where
  r : Row
  a : Addr
  bs : List Str
structure SoundOk (d : SoundD) : Prop where
  mark : isMk d.r.mark
  new : d.r.mark ∉ d.bs
  num : (0 ≤ d.r.least ∧ d.r.least ≤ d.r.most) ∧ d.r.most ≤ 4
  some_ : 0 < d.r.most ↔ d.r.parents ≠ []
  nd : d.r.parents.Nodup
  len : d.r.parents.length ≤ 100
def ct_sound_row : Ct where
  δ := SoundD
  ε := Unit
  ok := SoundOk
  pre d := [rRowT d.r, rA d.a]
  own d := [oLs d.a (d.bs.map rS)]
  post _ _ := True
  ret d _ := rRowT d.r
  out d _ := [oLs d.a (d.bs.map rS)]
section
variable {P : Program} {w : World} {K : PySem.W.Frag} {mg : Str → Option Value} {base : Heap}
set_option maxHeartbeats 4000000 in
theorem ok_sound_row (T : Txt K mg) (C_is_mark : Cal P w K mg base 1 "is_mark" (Fn ct_is_mark) []) : Cal P w K mg base 2 "sound_row" (Fn ct_sound_row) [] := by
  haveI : FldI K (He.ga K "Shape") "_listed" := ⟨T.c_Shape, T.n_Shape__listed⟩
  haveI : FldI K (He.ga K "Shape") "_marks" := ⟨T.c_Shape, T.n_Shape__marks⟩
  haveI : FldI K (He.ga K "Web") "shape" := ⟨T.c_Web, T.n_Web_shape⟩
  haveI : FldI K (He.ga K "Web") "_rows" := ⟨T.c_Web, T.n_Web__rows⟩
  haveI : FldI K (He.ga K "Web") "_numbers" := ⟨T.c_Web, T.n_Web__numbers⟩
  haveI : FldI K (He.ga K "Standing") "web" := ⟨T.c_Standing, T.n_Standing_web⟩
  haveI : FldI K (He.ga K "Standing") "_modes" := ⟨T.c_Standing, T.n_Standing__modes⟩
  haveI : FldI K (He.ga K "Standing") "_holds" := ⟨T.c_Standing, T.n_Standing__holds⟩
  haveI : FldI K (He.ga K "Standing") "_loose" := ⟨T.c_Standing, T.n_Standing__loose⟩
  haveI : FldI K (He.ga K "Weaving") "web" := ⟨T.c_Weaving, T.n_Weaving_web⟩
  haveI : FldI K (He.ga K "Weaving") "_events" := ⟨T.c_Weaving, T.n_Weaving__events⟩
  haveI : FldI K (He.ga K "Weaving") "_standings" := ⟨T.c_Weaving, T.n_Weaving__standings⟩
  haveI : FldI K (He.ga K "Weaving") "_lockers" := ⟨T.c_Weaving, T.n_Weaving__lockers⟩
  haveI : FldI K (He.ga K "Weaving") "_edges" := ⟨T.c_Weaving, T.n_Weaving__edges⟩
  haveI := T.v_Shape_MARKS
  haveI := T.v_Shape_PARENTS
  haveI := T.v_Web_MOST
  haveI := T.i_DEEDS
  haveI := T.i_MODES
  refine calD T.f_sound_row T.g_sound_row sc_sound_row (fun _ _ _ _ _ _ us hl => match us, hl with | [_, _], _ => rfl) (fun _ => rfl) (fun cdv A outer s H E hr => ?_)
  have hu := hu_of hr
  have hu64 := hu64_of hr
  have hu65 := hu65_of hr
  refine ⟨_, (pss_cons (ps_asg (pv 0) (pg_unp K (is := [2, 3, 4, 5, 6]) (pg_tup rfl (pgs_cons (pg_name (i := 2) sc_sound_row.nd rfl (by first | exact Or.inl rfl | exact Or.inr rfl)) (pgs_cons (pg_name (i := 3) sc_sound_row.nd rfl (by first | exact Or.inl rfl | exact Or.inr rfl)) (pgs_cons (pg_name (i := 4) sc_sound_row.nd rfl (by first | exact Or.inl rfl | exact Or.inr rfl)) (pgs_cons (pg_name (i := 5) sc_sound_row.nd rfl (by first | exact Or.inl rfl | exact Or.inr rfl)) (pgs_cons (pg_name (i := 6) sc_sound_row.nd rfl (by first | exact Or.inl rfl | exact Or.inr rfl)) pgs_nil))))))))
    (pss_cons (ps_set (i := 3) sc_sound_row.nd rfl (by first | exact Or.inl rfl | exact Or.inr rfl) (pe_callTy (tupU K) (by rfl) T.z_tuple (by decide +kernel) (pa_cons (pv 3) pa_nil)))
    (pss_cons (ps_set (i := 7) sc_sound_row.nd rfl (by first | exact Or.inl rfl | exact Or.inr rfl) (pe_and (pe_c C_is_mark hr (by decide) (by rfl) (pa_cons (pv 2) pa_nil)) (pe_and (pe_cmpR (notInU K hu65) (pv 2) (pv 1) rfl) (pe_one (pe_chain3 op_le op_le op_le pe_int (pv 4) (pv 5) (pe_cvalU K (pe_gc (v := .ref (He.ga K "Shape")) (by rfl) ⟨_, T.g_Shapedd_initdd, rfl⟩)))))))
    (pss_cons (ps_if (PW.pt (pw_and (pt_val (pv 7)) (pw_and1 (pt_cmpR (neU K hu64) (pe_cmpR op_gt (pv 5) pe_int (nomark _)) (pe_cmpR op_gt (pe_callB (lenU K) (by rfl) T.z_len PySem.boot_len (pa_cons (pv 3) pa_nil)) pe_int (nomark _)) (nomark _))))) (pss_one (ps_set (i := 7) sc_sound_row.nd rfl (by first | exact Or.inl rfl | exact Or.inr rfl) pe_bl)) pss_nil)
    (pss_cons (ps_for PassesOwn.never rfl (pi_enumT K (by rfl) T.z_enumerate (pa_cons (pv 3) pa_nil)) (pg_unp K (is := [8, 9]) (pg_tup rfl (pgs_cons (pg_name (i := 8) sc_sound_row.nd rfl (by first | exact Or.inl rfl | exact Or.inr rfl)) (pgs_cons (pg_name (i := 9) sc_sound_row.nd rfl (by first | exact Or.inl rfl | exact Or.inr rfl)) pgs_nil))))
    (pss_one (ps_if (pt_cmpR (inU K hu65) (pv 9) (pe_slice (slTup K) (pv 3) po_none (po_some (pv 8))) rfl) (pss_one (ps_set (i := 7) sc_sound_row.nd rfl (by first | exact Or.inl rfl | exact Or.inr rfl) pe_bl)) pss_nil)))
    (pss_cons (ps_if (pt_not (pt_val (pv 7))) pss_never pss_nil)
    (pss_one (ps_ret (pe_tup (pa_cons (pv 2) (pa_cons (pv 3) (pa_cons (pv 4) (pa_cons (pv 5) (pa_cons (pv 6) pa_nil)))))))))))))), ?_⟩
  rintro ⟨r, a, bs⟩ L g fr Q ⟨o1, o2, ⟨⟨o3, o4⟩, o5⟩, o6, o7, o8⟩ hR
  dsimp only at o1 o2 o3 o4 o5 o6 o7 o8
  show Gk L [some (rRowT r), some (rA a), none, none, none, none, none, none, none, none] [g] (oLs a (bs.map rS) :: fr) _
  walk_at "g"
  refine k_callF (c := ct_is_mark) (fr := oLs a (bs.map rS) :: fr) r.mark rfl rfl o1 ?_
  rintro - -
  conv => arg 3; dsimp only [ct_is_mark]
  conv => arg 4; dsimp only [ct_is_mark, List.nil_append]
  refine k_andV (c := true) (fun _ K1 h => ?_) ?_
  · walk_at "g0"
    rw [decide_eq_false o2]
    refine k_andV (c := true) (fun _ K2 h2 => ?_) h
    walk_at "g0"
    rw [decide_eq_true o3]
    walk_at "g0"
    rw [decide_eq_true o4]
    walk_at "g0"
    rw [decide_eq_true o5]
    exact h2
  walk_at "g0"
  refine k_andT ?_
  walk_at "g0"
  have e : (decide ((0:Int) < r.most) != decide ((0:Int) < r.parents.length)) = false := by
    by_cases z : 0 < r.most
    · have h := o6.mp z
      have h2 : (0:Int) < r.parents.length := by have := List.length_pos_iff.mpr h; omega
      rw [decide_eq_true z, decide_eq_true h2]; rfl
    · have h2 : ¬ (0:Int) < r.parents.length := fun q => z (o6.mpr (List.length_pos_iff.mp (by omega)))
      rw [decide_eq_false z, decide_eq_false h2]; rfl
  rw [e]
  refine k_ifF ?_
  walk_at "g0"
  refine k_forEn (qs := r.parents.map rS) (T := Unit) (fun _ _ => True) (fun _ => [some (rRowT r), some (rA a), some (rS r.mark), some (rTp (r.parents.map rS)), some (G.rI r.least), some (G.rI r.most), some (rB r.shared), some (rB true), none, none]) (fun _ => oLs a (bs.map rS) :: fr) () trivial (by walk_at "le") rfl ?_ ?_
  · intro i q gh _ N hq _ hN
    obtain ⟨x, hx, rfl⟩ := map_get hq
    have hi := (List.getElem?_eq_some_iff.mp hx).1
    walk_at "g0"
    refine k_slT (qs := r.parents.map rS) (fun z => ?_) ?_
    · have z2 := z.2
      rw [List.length_map] at z2
      rw [HT.sIx_nat] at z2
      omega
    rw [cutR_map, cut_to (by omega : (0:Int) ≤ i), Int.toNat_natCast]
    walk_at "g0"
    rw [decide_eq_false (nodup_take o7 hx)]
    walk_at "g0"
    refine k_le (by walk_at "le") rfl (hN () ?_)
    trivial
  · intro _ _
    walk_at "g0"
    refine k_ifF ?_
    walk_at "g0"
    exact k_fin hR () trivial (fun _ h => h)

end


/-! barren -/
structure BarrenOk (d : List Str × List Row) : Prop where
  rows : RowsOk d.1 d.2
  len : d.2.length ≤ 100
def ct_barren : Ct where
  δ := List Str × List Row
  ε := Unit
  ok := BarrenOk
  pre d := [rLs (d.2.map rRowT)]
  own _ := []
  post _ _ := True
  ret _ _ := rN
  out _ _ := []
section
variable {P : Program} {w : World} {K : PySem.W.Frag} {mg : Str → Option Value} {base : Heap}
set_option maxHeartbeats 4000000 in
theorem ok_barren (T : Txt K mg)  : Cal P w K mg base 1 "barren" (Fn ct_barren) [] := by
  haveI : FldI K (He.ga K "Shape") "_listed" := ⟨T.c_Shape, T.n_Shape__listed⟩
  haveI : FldI K (He.ga K "Shape") "_marks" := ⟨T.c_Shape, T.n_Shape__marks⟩
  haveI : FldI K (He.ga K "Web") "shape" := ⟨T.c_Web, T.n_Web_shape⟩
  haveI : FldI K (He.ga K "Web") "_rows" := ⟨T.c_Web, T.n_Web__rows⟩
  haveI : FldI K (He.ga K "Web") "_numbers" := ⟨T.c_Web, T.n_Web__numbers⟩
  haveI : FldI K (He.ga K "Standing") "web" := ⟨T.c_Standing, T.n_Standing_web⟩
  haveI : FldI K (He.ga K "Standing") "_modes" := ⟨T.c_Standing, T.n_Standing__modes⟩
  haveI : FldI K (He.ga K "Standing") "_holds" := ⟨T.c_Standing, T.n_Standing__holds⟩
  haveI : FldI K (He.ga K "Standing") "_loose" := ⟨T.c_Standing, T.n_Standing__loose⟩
  haveI : FldI K (He.ga K "Weaving") "web" := ⟨T.c_Weaving, T.n_Weaving_web⟩
  haveI : FldI K (He.ga K "Weaving") "_events" := ⟨T.c_Weaving, T.n_Weaving__events⟩
  haveI : FldI K (He.ga K "Weaving") "_standings" := ⟨T.c_Weaving, T.n_Weaving__standings⟩
  haveI : FldI K (He.ga K "Weaving") "_lockers" := ⟨T.c_Weaving, T.n_Weaving__lockers⟩
  haveI : FldI K (He.ga K "Weaving") "_edges" := ⟨T.c_Weaving, T.n_Weaving__edges⟩
  haveI := T.v_Shape_MARKS
  haveI := T.v_Shape_PARENTS
  haveI := T.v_Web_MOST
  haveI := T.i_DEEDS
  haveI := T.i_MODES
  refine calD T.f_barren T.g_barren sc_barren (fun _ _ _ _ _ _ us hl => match us, hl with | [_], _ => rfl) (fun _ => rfl) (fun cdv A outer s H E hr => ?_)
  have hu := hu_of hr
  have hu64 := hu64_of hr
  have hu65 := hu65_of hr
  refine ⟨_, (pss_cons (ps_set (i := 1) sc_barren.nd rfl (by first | exact Or.inl rfl | exact Or.inr rfl) pe_dnewK)
    (pss_cons (ps_set (i := 2) sc_barren.nd rfl (by first | exact Or.inl rfl | exact Or.inr rfl) pe_bl)
    (pss_cons (ps_while PassesOwn.never (pt_val (pv 2))
    (pss_cons (ps_set (i := 2) sc_barren.nd rfl (by first | exact Or.inl rfl | exact Or.inr rfl) pe_bl)
    (pss_one (ps_for PassesOwn.never rfl (piL K (pv 0)) (pg_unp K (is := [4, 5, 6, 7, 7]) (pg_tup rfl (pgs_cons (pg_name (i := 4) sc_barren.nd rfl (by first | exact Or.inl rfl | exact Or.inr rfl)) (pgs_cons (pg_name (i := 5) sc_barren.nd rfl (by first | exact Or.inl rfl | exact Or.inr rfl)) (pgs_cons (pg_name (i := 6) sc_barren.nd rfl (by first | exact Or.inl rfl | exact Or.inr rfl)) (pgs_cons (pg_name (i := 7) sc_barren.nd rfl (by first | exact Or.inl rfl | exact Or.inr rfl)) (pgs_cons (pg_name (i := 7) sc_barren.nd rfl (by first | exact Or.inl rfl | exact Or.inr rfl)) pgs_nil)))))))
    (pss_one (ps_if (PW.pt (pw_and (pt_cmpR (op_dNotIn hu) (pv 4) (pv 1) rfl) (pw_and1 (PW.pt (pw_or (pt_cmpR (eqU K hu64) (pv 6) pe_int (nomark _)) (pw_or1 (pt_val (pe_callB (anyU K rfl) (by rfl) T.z_any (by decide +kernel) (pa_cons (pe_lc (own := [("parent", 8)]) rfl sc_barren.nd (piT K (pv 5)) (blkOk_by (own := [("parent", 8)]) (N := N_barren) (sc := (defScope s_barren)) (by decide +kernel)) (fun _ _ _ _ _ => (pg_name (i := 8) sc_barren.nd rfl (by first | exact Or.inl rfl | exact Or.inr rfl))) (fun _ _ _ _ _ => pts_nil) (fun _ _ _ _ _ => (pe_cmpR (op_dIn hu) (pv 8) (pv 1) rfl))) pa_nil))))))))) (pss_cons (ps_dput hu (pv 1) (pv 4) pe_bl rfl)
    (pss_one (ps_set (i := 2) sc_barren.nd rfl (by first | exact Or.inl rfl | exact Or.inr rfl) pe_bl))) pss_nil))))))
    (pss_cons (ps_for PassesOwn.never rfl (piL K (pv 0)) (pg_name (i := 3) sc_barren.nd rfl (by first | exact Or.inl rfl | exact Or.inr rfl))
    (pss_one (ps_if (pt_cmpR (op_dNotIn hu) (pe_ix (ixU K) (pv 3) pe_int (fun _ _ => rfl)) (pv 1) rfl) (pss_one (ps_ret (pe_ix (ixU K) (pv 3) pe_int (fun _ _ => rfl)))) pss_nil)))
    (pss_one (ps_ret pe_non)))))), ?_⟩
  rintro ⟨ms, rows⟩ L g fr Q ⟨o1, o2⟩ hR
  dsimp only at o1 o2
  show Gk L [some (rLs (rows.map rRowT)), none, none, none, none, none, none, none, none] [g] fr _
  walk_at "g"
  rename_i p
  have hlen : rows.length = ms.length := by rw [← o1.marks, List.length_map]
  refine k_while (T := List Str × Bool) (fun s => s.1.Nodup ∧ (∀ k ∈ s.1, k ∈ ms) ∧ (s.2 = false → ∀ m ∈ ms, m ∈ s.1)) (fun s => 2 * (ms.length - s.1.length) + (if s.2 = true then 1 else 0)) (fun s => [some (rLs (rows.map rRowT)), some (rA p), some (rB s.2), none, none, none, none, none, none]) (fun s => oDk p (knownKV s.1) :: fr) ([], true) ⟨.nil, by simp, fun h => nomatch h⟩ (by walk_at "le") rfl ?_
  rintro ⟨ks, gr⟩ N K2 ⟨(j1 : ks.Nodup), (j2 : ∀ k ∈ ks, k ∈ ms), (j3 : gr = false → ∀ m ∈ ms, m ∈ ks)⟩ hN hK
  dsimp only at hN ⊢
  walk_at "g0"
  refine hK gr _ _ _ (fun hg => ?_) (fun hg => ?_)
  · subst hg
    have hkl := nodup_len j1 j2
    walk_at "g0"
    refine k_forL (T := List Str × Bool) (fun i s => s.1.Nodup ∧ (∀ k ∈ s.1, k ∈ ms) ∧ (∀ m ∈ ms.take i, m ∈ s.1) ∧ (s.2 = false → s.1 = ks) ∧ (s.2 = true → ks.length < s.1.length)) (fun s => [some (rLs (rows.map rRowT)), some (rA p), some (rB s.2), none, none, none, none, none, none]) (fun s => oDk p (knownKV s.1) :: fr) (ks, false) ⟨j1, j2, by simp, fun _ => rfl, fun h => nomatch h⟩ (by walk_at "le") rfl ?_ ?_
    · rintro i q gh ⟨kn, gw⟩ N2 hq ⟨(q1 : kn.Nodup), (q2 : ∀ k ∈ kn, k ∈ ms), (q3 : ∀ m ∈ ms.take i, m ∈ kn), (q4 : gw = false → kn = ks), (q5 : gw = true → ks.length < kn.length)⟩ hN2
      dsimp only at hN2 ⊢
      obtain ⟨r, hr, rfl⟩ := map_get hq
      have hm : ms[i]? = some r.mark := by rw [← o1.marks, List.getElem?_map, hr]; rfl
      have hnl := nodup_len q1 q2
      have hkv : (knownKV kn).length ≤ 10000 := by unfold knownKV; rw [List.length_map]; omega
      walk_at "g0"
      rw [known_some]
      by_cases hk : r.mark ∈ kn
      · rw [decide_eq_true hk]
        walk_at "g0"
        refine k_le (by walk_at "le") rfl (hN2 (kn, gw) ?_)
        refine ⟨q1, q2, fun m hm2 => ?_, q4, q5⟩
        rw [take_snoc hm] at hm2
        rcases List.mem_append.mp hm2 with z | z
        · exact q3 m z
        · rw [List.mem_singleton.mp z]; exact hk
      · rw [decide_eq_false hk]
        refine k_andT ?_
        have fin : Gk L [some (rLs (rows.map rRowT)), some (rA p), some (rB true), none, none, none, none, none, none] [gh, g] (oDk p (putKR (knownKV kn) (Sum.inr r.mark) (rV (.bl true))) :: fr) (fun σ _ H => N2 σ H) := by
          rw [known_put hk]
          refine hN2 (kn ++ [r.mark], true) ⟨List.nodup_append.mpr ⟨q1, by simp, fun a ha b hb e => hk (by rw [List.mem_singleton.mp hb] at e; rw [← e]; exact ha)⟩, fun k hk2 => ?_, fun m hm2 => ?_, (fun h => nomatch h), fun _ => ?_⟩
          · rcases List.mem_append.mp hk2 with z | z
            · exact q2 k z
            · rw [List.mem_singleton.mp z]; exact List.mem_of_getElem? hm
          · rw [take_snoc hm] at hm2
            rcases List.mem_append.mp hm2 with z | z
            · exact List.mem_append_left _ (q3 m z)
            · exact List.mem_append_right _ z
          · show ks.length < (kn ++ [r.mark]).length
            rw [List.length_append, List.length_singleton]
            cases gw with
            | true => have := q5 rfl; omega
            | false => rw [q4 rfl]; omega
        walk_at "g0"
        by_cases h0 : r.least = 0
        · rw [decide_eq_true h0]
          walk_at "g0"
          exact k_le (by walk_at "le") rfl fin
        · rw [decide_eq_false h0]
          have hp : ∃ m ∈ r.parents, m ∈ kn := by
            rcases o1.grow i r hr with z | ⟨m, hm1, hm2⟩
            · exact absurd z h0
            · exact ⟨m, hm1, q3 m hm2⟩
          have hpl : r.parents.length ≤ 10000 := by
            have := (o1.par r (List.mem_of_getElem? hr)).length_le
            omega
          walk_at "g0"
          refine k_lcT (w := ⟨rfl⟩) (xs := r.parents) (t := rS) (fun _ => true) (fun x => rB (decide (x ∈ kn))) _  hpl (fun y => gok_nm rfl (by decide)) (fun y hy gx D acc K2 h => ?_) (fun y hy hp gx D acc K1 h => ?_) (fun D => ?_)
          · walk_at "cm"
            walk_at "g0"
            exact h
          · walk_at "cm"
            walk_at "g0"
            rw [known_some]
            exact h
          refine n_frzT ?_
          rw [show (r.parents.filter fun _ => true) = r.parents from List.filter_eq_self.mpr fun _ _ => rfl, show (r.parents.map fun x => rB (decide (x ∈ kn))) = (r.parents.map fun x => decide (x ∈ kn)).map rB from by rw [List.map_map]; rfl]
          walk_at "g0"
          have ha : (r.parents.map fun x => decide (x ∈ kn)).any id = true := by
            obtain ⟨m, h1, h2⟩ := hp
            exact List.any_eq_true.mpr ⟨true, List.mem_map.mpr ⟨m, h1, decide_eq_true h2⟩, rfl⟩
          rw [ha]
          walk_at "g0"
          exact k_le (by walk_at "le") rfl fin
    · rintro ⟨kn, gw⟩ ⟨(q1 : kn.Nodup), (q2 : ∀ k ∈ kn, k ∈ ms), (q3 : ∀ m ∈ ms.take (rows.map rRowT).length, m ∈ kn), (q4 : gw = false → kn = ks), (q5 : gw = true → ks.length < kn.length)⟩
      dsimp only
      rw [List.length_map, hlen, List.take_length] at q3
      have hnl := nodup_len q1 q2
      refine k_le (by walk_at "le") rfl (hN (kn, gw) ?_)
      refine ⟨⟨q1, q2, fun _ => q3⟩, ?_⟩
      show 2 * (ms.length - kn.length) + (if gw = true then 1 else 0) < 2 * (ms.length - ks.length) + (if true = true then 1 else 0)
      rw [if_pos rfl]
      cases gw with
      | true => have := q5 rfl; rw [if_pos rfl]; omega
      | false => rw [q4 rfl, if_neg Bool.false_ne_true]; omega
  · have hall := j3 hg
    walk_at "g0"
    refine k_forL (T := Unit) (fun _ _ => True) (fun _ => [some (rLs (rows.map rRowT)), some (rA p), some (rB gr), none, none, none, none, none, none]) (fun _ => oDk p (knownKV ks) :: fr) () trivial (by walk_at "le") rfl ?_ ?_
    · intro i q gh _ N2 hq _ hN2
      obtain ⟨r, hr, rfl⟩ := map_get hq
      have hm : r.mark ∈ ms := by rw [← o1.marks]; exact List.mem_map.mpr ⟨r, List.mem_of_getElem? hr, rfl⟩
      walk_at "g0"
      rw [known_some, decide_eq_true (hall _ hm)]
      refine k_ifF ?_
      walk_at "g0"
      refine k_le (by walk_at "le") rfl (hN2 () ?_)
      trivial
    · intro _ _
      walk_at "g0"
      refine n_forget 0 ?_
      exact k_fin hR () trivial (fun _ h => h)

end


/-! Shape.__init__ -/
structure ShapeD where
  x : Addr
  ms : List Str
  rows : List Row
structure ShapeOk (d : ShapeD) : Prop where
  rows : RowsOk d.ms d.rows
  len : d.rows.length ≤ 6
def ct_Shapedd_initdd (K : PySem.W.Frag) : Ct where
  δ := ShapeD
  ε := Unit
  ok := ShapeOk
  pre d := [rA d.x, rTp (d.rows.map rRowT)]
  own d := [oIn d.x (He.ga K "Shape") []]
  post _ _ := True
  ret _ _ := rN
  out d _ := [oIn d.x (He.ga K "Shape") (shapeF d.ms d.rows)]
def fro_Shapedd_initdd (d : ShapeD) : List R := [rA d.x]
def rest_Shapedd_initdd (d : ShapeD) : List R := d.rows.map rRowT
theorem restlen_Shapedd_initdd (d : ShapeD) (h : ShapeOk d) : (rest_Shapedd_initdd d).length ≤ 10000 := by
  unfold rest_Shapedd_initdd
  rw [List.length_map]
  have := h.len
  omega
section
variable {P : Program} {w : World} {K : PySem.W.Frag} {mg : Str → Option Value} {base : Heap}
set_option maxHeartbeats 4000000 in
theorem ok_Shapedd_initdd (T : Txt K mg) (C_sound_row : Cal P w K mg base 2 "sound_row" (Fn ct_sound_row) []) (C_barren : Cal P w K mg base 1 "barren" (Fn ct_barren) []) : MakS P w K mg base 3 "Shape" (He.ga K "Shape") (Fn (starCt (ct_Shapedd_initdd K) fro_Shapedd_initdd rest_Shapedd_initdd)) := by
  haveI : FldI K (He.ga K "Shape") "_listed" := ⟨T.c_Shape, T.n_Shape__listed⟩
  haveI : FldI K (He.ga K "Shape") "_marks" := ⟨T.c_Shape, T.n_Shape__marks⟩
  haveI : FldI K (He.ga K "Web") "shape" := ⟨T.c_Web, T.n_Web_shape⟩
  haveI : FldI K (He.ga K "Web") "_rows" := ⟨T.c_Web, T.n_Web__rows⟩
  haveI : FldI K (He.ga K "Web") "_numbers" := ⟨T.c_Web, T.n_Web__numbers⟩
  haveI : FldI K (He.ga K "Standing") "web" := ⟨T.c_Standing, T.n_Standing_web⟩
  haveI : FldI K (He.ga K "Standing") "_modes" := ⟨T.c_Standing, T.n_Standing__modes⟩
  haveI : FldI K (He.ga K "Standing") "_holds" := ⟨T.c_Standing, T.n_Standing__holds⟩
  haveI : FldI K (He.ga K "Standing") "_loose" := ⟨T.c_Standing, T.n_Standing__loose⟩
  haveI : FldI K (He.ga K "Weaving") "web" := ⟨T.c_Weaving, T.n_Weaving_web⟩
  haveI : FldI K (He.ga K "Weaving") "_events" := ⟨T.c_Weaving, T.n_Weaving__events⟩
  haveI : FldI K (He.ga K "Weaving") "_standings" := ⟨T.c_Weaving, T.n_Weaving__standings⟩
  haveI : FldI K (He.ga K "Weaving") "_lockers" := ⟨T.c_Weaving, T.n_Weaving__lockers⟩
  haveI : FldI K (He.ga K "Weaving") "_edges" := ⟨T.c_Weaving, T.n_Weaving__edges⟩
  haveI := T.v_Shape_MARKS
  haveI := T.v_Shape_PARENTS
  haveI := T.v_Web_MOST
  haveI := T.i_DEEDS
  haveI := T.i_MODES
  refine ⟨_, T.mk_Shape, ?_, T.g_Shapedd_initdd⟩
  refine starR (ps := [("self" : Str)]) (pv := "rows") (c := (ct_Shapedd_initdd K)) (fro := fro_Shapedd_initdd) (rest := rest_Shapedd_initdd) T.f_Shapedd_initdd sc_Shapedd_initdd (fun kV doc pm an cdv ct => StX.bind_star1 (B := fun l => bindArgs (PySem.W.fnOf "__init__" "Shape.__init__" (defArgs s_Shapedd_initdd) (defBody s_Shapedd_initdd) (defScope s_Shapedd_initdd) .none kV doc pm an cdv ct) ⟨l, []⟩) (fun _ => rfl) (fun _ _ _ => rfl)) (fun _ => rfl) (fun _ => rfl) restlen_Shapedd_initdd (fun cdv A outer s H E hr => ?_)
  have hu := hu_of hr
  have hu64 := hu64_of hr
  have hu65 := hu65_of hr
  refine ⟨_, (pss_cons (ps_if (pt_cmpR op_gt (pe_callB (lenU K) (by rfl) T.z_len PySem.boot_len (pa_cons (pv 1) pa_nil)) (pe_cvalU K (pe_gc (v := .ref (He.ga K "Shape")) (by rfl) ⟨_, T.g_Shapedd_initdd, rfl⟩)) (nomark _)) pss_never pss_nil)
    (pss_cons (ps_set (i := 2) sc_Shapedd_initdd.nd rfl (by first | exact Or.inl rfl | exact Or.inr rfl) (pe_lst pa_nil))
    (pss_cons (ps_set (i := 3) sc_Shapedd_initdd.nd rfl (by first | exact Or.inl rfl | exact Or.inr rfl) (pe_lst pa_nil))
    (pss_cons (ps_for PassesOwn.never rfl (piT K (pv 1)) (pg_name (i := 4) sc_Shapedd_initdd.nd rfl (by first | exact Or.inl rfl | exact Or.inr rfl))
    (pss_cons (ps_expr (pe_bm PySem.F.plainAttrs_list PySem.F.slot_list_append PySem.F.type_list_append mt_append (pv 2) (pa_cons (pe_c C_sound_row hr (by decide) (by rfl) (pa_cons (pv 4) (pa_cons (pv 3) pa_nil))) pa_nil)))
    (pss_one (ps_expr (pe_bm PySem.F.plainAttrs_list PySem.F.slot_list_append PySem.F.type_list_append mt_append (pv 3) (pa_cons (pe_ix (ixU K) (pv 4) pe_int (fun _ _ => rfl)) pa_nil))))))
    (pss_cons (ps_for PassesOwn.never rfl (piL K (pv 2)) (pg_name (i := 4) sc_Shapedd_initdd.nd rfl (by first | exact Or.inl rfl | exact Or.inr rfl))
    (pss_one (ps_for PassesOwn.never rfl (piT K (pe_ix (ixU K) (pv 4) pe_int (fun _ _ => rfl))) (pg_name (i := 6) sc_Shapedd_initdd.nd rfl (by first | exact Or.inl rfl | exact Or.inr rfl))
    (pss_one (ps_if (pt_cmpR (notInU K hu65) (pv 6) (pv 3) rfl) pss_never pss_nil)))))
    (pss_cons (ps_set (i := 5) sc_Shapedd_initdd.nd rfl (by first | exact Or.inl rfl | exact Or.inr rfl) (pe_c C_barren hr (by decide) (by rfl) (pa_cons (pv 2) pa_nil)))
    (pss_cons (ps_if (pt_cmpR op_notN (pv 5) pe_non (nomark _)) pss_never pss_nil)
    (pss_cons (ps_fld (pv 0) (pv 2) rfl)
    (pss_one (ps_fld (pv 0) (pv 3) rfl)))))))))), ?_⟩
  rintro ⟨x, ms, rows⟩ L g fr Q ⟨o1, o2⟩ hR
  dsimp only at o1 o2
  have hlen : rows.length = ms.length := by rw [← o1.marks, List.length_map]
  show Gk L [some (rA x), some (rTp (rows.map rRowT)), none, none, none, none, none] [g] (oIn x (He.ga K "Shape") [] :: fr) _
  walk_at "g0"
  rw [decide_eq_false (by omega : ¬ (6:Int) < rows.length)]
  walk_at "g0"
  rename_i p1 p2
  refine k_forTu (qs := rows.map rRowT) (T := Nat) (fun i s => s = i) (fun _ => [some (rA x), some (rTp (rows.map rRowT)), some (rA p1), some (rA p2), none, none, none]) (fun s => oLs p2 ((ms.take s).map rS) :: oLs p1 ((rows.take s).map rRowT) :: oIn x (He.ga K "Shape") [] :: fr) 0 rfl (by walk_at "le") rfl ?_ ?_
  · rintro i q gh s N hq rfl hN
    obtain ⟨r, hr, rfl⟩ := map_get hq
    have hi := (List.getElem?_eq_some_iff.mp hr).1
    have hrm := List.mem_of_getElem? hr
    have hm : ms[s]? = some r.mark := by rw [← o1.marks, List.getElem?_map, hr]; rfl
    obtain ⟨n1, n2, n3, n4, n5⟩ := o1.num r hrm
    have hpl := (o1.par r hrm).length_le
    have hl1 : (rows.take s).length ≤ 100 := by rw [List.length_take]; omega
    have hl2 : (ms.take s).length ≤ 100 := by rw [List.length_take]; omega
    walk_at "g0"
    refine k_callF (c := ct_sound_row) ⟨r, p2, ms.take s⟩ rfl rfl ⟨o1.isMk _ (List.mem_of_getElem? hm), nodup_take o1.nodup hm, ⟨⟨n1, n3⟩, by show r.most ≤ 4; omega⟩, n5, (o1.nodup).sublist (o1.par r hrm), by show r.parents.length ≤ 100; omega⟩ ?_
    rintro - -
    conv => arg 3; dsimp only [ct_sound_row]
    conv => arg 4; dsimp only [ct_sound_row, List.cons_append, List.nil_append]
    walk_at "g0"
    refine k_le (by walk_at "le") ?_ (hN (s + 1) rfl)
    rw [take_snoc hm, take_snoc hr, List.map_append, List.map_append]
  · rintro s rfl
    rw [List.length_map, List.take_length, hlen, List.take_length]
    refine n_frzS 2 ?_
    refine n_frzS 3 ?_
    walk_at "g0"
    refine k_forL (qs := rows.map rRowT) (T := Unit) (fun _ _ => True) (fun _ => [some (rA x), some (rTp (rows.map rRowT)), some (rLs (rows.map rRowT)), some (rLs (ms.map rS)), none, none, none]) (fun _ => oIn x (He.ga K "Shape") [] :: fr) () trivial (by walk_at "le") rfl ?_ ?_
    · rintro i q gh - N hq - hN
      obtain ⟨r, hr, rfl⟩ := map_get hq
      have hpar := o1.par r (List.mem_of_getElem? hr)
      walk_at "g0"
      refine k_forTu (qs := r.parents.map rS) (T := Unit) (fun _ _ => True) (fun _ => [some (rA x), some (rTp (rows.map rRowT)), some (rLs (rows.map rRowT)), some (rLs (ms.map rS)), some (rRowT r), none, none]) (fun _ => oIn x (He.ga K "Shape") [] :: fr) () trivial (by walk_at "le") rfl ?_ ?_
      · rintro j q gh2 - N2 hq2 - hN2
        obtain ⟨m, hm, rfl⟩ := map_get hq2
        walk_at "g0"
        rw [decide_eq_true (hpar.subset (List.mem_of_getElem? hm))]
        refine k_ifF ?_
        walk_at "g0"
        refine k_le (by walk_at "le") rfl (hN2 () ?_)
        trivial
      · rintro - -
        refine k_le (by walk_at "le") rfl (hN () ?_)
        trivial
    · rintro - -
      walk_at "g0"
      refine k_callF (c := ct_barren) (ms, rows) rfl rfl ⟨o1, by show rows.length ≤ 100; omega⟩ ?_
      rintro - -
      conv => arg 3; dsimp only [ct_barren]
      conv => arg 4; dsimp only [ct_barren, List.cons_append, List.nil_append, List.eraseIdx]
      walk_at "g0"
      refine k_ifF ?_
      walk_at "g0"
      refine k_sfld T.c_Shape T.n_Shape__listed (by decide) ?_
      walk_at "g0"
      refine k_sfld T.c_Shape T.n_Shape__marks (by show 1 < 900; decide) ?_
      exact k_finN hR () trivial (fun _ h => h)

end


/-! Shape.__getitem__ -/
structure GetD where
  ms : List Str
  rows : List Row
  r : Row
structure GetOk (d : GetD) : Prop where
  rows : RowsOk d.ms d.rows
  mem : d.r ∈ d.rows
def ct_Shapedd_getitemdd (K : PySem.W.Frag) : Ct where
  δ := GetD
  ε := Unit
  ok := GetOk
  pre d := [rShape K d.ms d.rows, rS d.r.mark]
  own _ := []
  post _ _ := True
  ret d _ := rRowT d.r
  out _ _ := []
section
variable {P : Program} {w : World} {K : PySem.W.Frag} {mg : Str → Option Value} {base : Heap}
set_option maxHeartbeats 4000000 in
theorem ok_Shapedd_getitemdd (T : Txt K mg)  : Met P w K mg base 1 (He.ga K "Shape") "__getitem__" (Fn (ct_Shapedd_getitemdd K)) [] := by
  haveI : FldI K (He.ga K "Shape") "_listed" := ⟨T.c_Shape, T.n_Shape__listed⟩
  haveI : FldI K (He.ga K "Shape") "_marks" := ⟨T.c_Shape, T.n_Shape__marks⟩
  haveI : FldI K (He.ga K "Web") "shape" := ⟨T.c_Web, T.n_Web_shape⟩
  haveI : FldI K (He.ga K "Web") "_rows" := ⟨T.c_Web, T.n_Web__rows⟩
  haveI : FldI K (He.ga K "Web") "_numbers" := ⟨T.c_Web, T.n_Web__numbers⟩
  haveI : FldI K (He.ga K "Standing") "web" := ⟨T.c_Standing, T.n_Standing_web⟩
  haveI : FldI K (He.ga K "Standing") "_modes" := ⟨T.c_Standing, T.n_Standing__modes⟩
  haveI : FldI K (He.ga K "Standing") "_holds" := ⟨T.c_Standing, T.n_Standing__holds⟩
  haveI : FldI K (He.ga K "Standing") "_loose" := ⟨T.c_Standing, T.n_Standing__loose⟩
  haveI : FldI K (He.ga K "Weaving") "web" := ⟨T.c_Weaving, T.n_Weaving_web⟩
  haveI : FldI K (He.ga K "Weaving") "_events" := ⟨T.c_Weaving, T.n_Weaving__events⟩
  haveI : FldI K (He.ga K "Weaving") "_standings" := ⟨T.c_Weaving, T.n_Weaving__standings⟩
  haveI : FldI K (He.ga K "Weaving") "_lockers" := ⟨T.c_Weaving, T.n_Weaving__lockers⟩
  haveI : FldI K (He.ga K "Weaving") "_edges" := ⟨T.c_Weaving, T.n_Weaving__edges⟩
  haveI := T.v_Shape_MARKS
  haveI := T.v_Shape_PARENTS
  haveI := T.v_Web_MOST
  haveI := T.i_DEEDS
  haveI := T.i_MODES
  refine metD T.c_Shape T.m_Shapedd_getitemdd T.f_Shapedd_getitemdd sc_Shapedd_getitemdd (fun _ _ _ _ _ _ us hl => match us, hl with | [_, _], _ => rfl) (fun _ => rfl) (fun cdv A outer s H E hr => ?_)
  have hu := hu_of hr
  have hu64 := hu64_of hr
  have hu65 := hu65_of hr
  refine ⟨_, (pss_cons (ps_for PassesOwn.never rfl (piL K (fldU K (pv 0))) (pg_name (i := 2) sc_Shapedd_getitemdd.nd rfl (by first | exact Or.inl rfl | exact Or.inr rfl))
    (pss_one (ps_if (pt_cmpR (eqU K hu64) (pe_ix (ixU K) (pv 2) pe_int (fun _ _ => rfl)) (pv 1) (nomark _)) (pss_one (ps_ret (pv 2))) pss_nil)))
    pss_never), ?_⟩
  rintro ⟨ms, rows, r⟩ L g fr Q ⟨o1, o2⟩ hR
  dsimp only at o1 o2
  obtain ⟨n, hn⟩ := List.getElem?_of_mem o2
  show Gk L [some (rShape K ms rows), some (rS r.mark), none] [g] fr _
  walk_at "g0"
  refine k_forL (qs := rows.map rRowT) (T := Unit) (fun i _ => i ≤ n) (fun _ => [some (rShape K ms rows), some (rS r.mark), none]) (fun _ => fr) () (Nat.zero_le _) (by walk_at "le") rfl ?_ ?_
  · rintro i q gh - N hq (hi : i ≤ n) hN
    obtain ⟨r', hr, rfl⟩ := map_get hq
    walk_at "g"
    · rename_i e
      have ei := o1.inj hr hn e
      subst ei
      rw [hr] at hn
      cases hn
      refine k_rtG ?_
      exact k_fin hR () trivial (fun _ h => h)
    · rename_i e
      refine k_le (by walk_at "le") rfl (hN () ?_)
      show i + 1 ≤ n
      have : i ≠ n := fun z => e (by subst z; rw [hr] at hn; cases hn; rfl)
      omega
  · rintro - hi
    rw [List.length_map] at hi
    have := (List.getElem?_eq_some_iff.mp hn).1
    omega

end


/-! Shape.__eq__ -/
def ct_Shapedd_eqdd (K : PySem.W.Frag) : Ct where
  δ := List Str × List Row
  ε := Unit
  ok d := RowsOk d.1 d.2
  pre d := [rShape K d.1 d.2, rShape K d.1 d.2]
  own d := []
  post _ _ := True
  ret d _ := rB true
  out d _ := []
section
variable {P : Program} {w : World} {K : PySem.W.Frag} {mg : Str → Option Value} {base : Heap}
set_option maxHeartbeats 4000000 in
theorem ok_Shapedd_eqdd (T : Txt K mg)  : Met P w K mg base 1 (He.ga K "Shape") "__eq__" (Fn (ct_Shapedd_eqdd K)) [] := by
  haveI : FldI K (He.ga K "Shape") "_listed" := ⟨T.c_Shape, T.n_Shape__listed⟩
  haveI : FldI K (He.ga K "Shape") "_marks" := ⟨T.c_Shape, T.n_Shape__marks⟩
  haveI : FldI K (He.ga K "Web") "shape" := ⟨T.c_Web, T.n_Web_shape⟩
  haveI : FldI K (He.ga K "Web") "_rows" := ⟨T.c_Web, T.n_Web__rows⟩
  haveI : FldI K (He.ga K "Web") "_numbers" := ⟨T.c_Web, T.n_Web__numbers⟩
  haveI : FldI K (He.ga K "Standing") "web" := ⟨T.c_Standing, T.n_Standing_web⟩
  haveI : FldI K (He.ga K "Standing") "_modes" := ⟨T.c_Standing, T.n_Standing__modes⟩
  haveI : FldI K (He.ga K "Standing") "_holds" := ⟨T.c_Standing, T.n_Standing__holds⟩
  haveI : FldI K (He.ga K "Standing") "_loose" := ⟨T.c_Standing, T.n_Standing__loose⟩
  haveI : FldI K (He.ga K "Weaving") "web" := ⟨T.c_Weaving, T.n_Weaving_web⟩
  haveI : FldI K (He.ga K "Weaving") "_events" := ⟨T.c_Weaving, T.n_Weaving__events⟩
  haveI : FldI K (He.ga K "Weaving") "_standings" := ⟨T.c_Weaving, T.n_Weaving__standings⟩
  haveI : FldI K (He.ga K "Weaving") "_lockers" := ⟨T.c_Weaving, T.n_Weaving__lockers⟩
  haveI : FldI K (He.ga K "Weaving") "_edges" := ⟨T.c_Weaving, T.n_Weaving__edges⟩
  haveI := T.v_Shape_MARKS
  haveI := T.v_Shape_PARENTS
  haveI := T.v_Web_MOST
  haveI := T.i_DEEDS
  haveI := T.i_MODES
  refine metD T.c_Shape T.m_Shapedd_eqdd T.f_Shapedd_eqdd sc_Shapedd_eqdd (fun _ _ _ _ _ _ us hl => match us, hl with | [_, _], _ => rfl) (fun _ => rfl) (fun cdv A outer s H E hr => ?_)
  have hu := hu_of hr
  have hu64 := hu64_of hr
  have hu65 := hu65_of hr
  refine ⟨_, (pss_one (ps_ret (pe_and (pe_callB (isC K T.i_Shape) (by rfl) T.z_isinstance (by decide +kernel) (pa_cons (pv 1) (pa_cons (pe_gc (v := .ref (He.ga K "Shape")) (by rfl) ⟨_, T.g_Shapedd_initdd, rfl⟩) pa_nil))) (pe_one (pe_cmpR (eqU K hu64) (fldU K (pv 0)) (fldU K (pv 1)) (nomark _)))))), ?_⟩
  rintro ⟨ms, rows⟩ L g fr Q o hR
  have o : RowsOk ms rows := o
  show Gk L [some (rShape K ms rows), some (rShape K ms rows)] [g] fr _
  walk_at "g0"
  refine k_andV (c := true) (fun _ K' h => ?_) ?_
  · walk_at "g0"
    have hs := (shp_rows o).shaped (by omega)
    refine k_eqD hs hs ?_
    rw [PySem.SeqAt.eqv_refl _ (shp_rows o).lay]
    exact h
  · exact k_fin hR () trivial (fun _ h => h)

end


/-! Shape.modes_of -/
def modesOf (sh : Bool) : List Str := if sh = true then ["own", "share"] else ["own"]
def ct_Shape_modes_of (K : PySem.W.Frag) : Ct where
  δ := GetD
  ε := Unit
  ok := GetOk
  pre d := [rShape K d.ms d.rows, rS d.r.mark]
  own _ := []
  post _ _ := True
  ret d _ := rTk K ((modesOf d.r.shared).map rS)
  out _ _ := []
section
variable {P : Program} {w : World} {K : PySem.W.Frag} {mg : Str → Option Value} {base : Heap}
set_option maxHeartbeats 4000000 in
theorem ok_Shape_modes_of (T : Txt K mg) (C_Shapedd_getitemdd : Met P w K mg base 1 (He.ga K "Shape") "__getitem__" (Fn (ct_Shapedd_getitemdd K)) []) : Met P w K mg base 3 (He.ga K "Shape") "modes_of" (Fn (ct_Shape_modes_of K)) [] := by
  haveI : FldI K (He.ga K "Shape") "_listed" := ⟨T.c_Shape, T.n_Shape__listed⟩
  haveI : FldI K (He.ga K "Shape") "_marks" := ⟨T.c_Shape, T.n_Shape__marks⟩
  haveI : FldI K (He.ga K "Web") "shape" := ⟨T.c_Web, T.n_Web_shape⟩
  haveI : FldI K (He.ga K "Web") "_rows" := ⟨T.c_Web, T.n_Web__rows⟩
  haveI : FldI K (He.ga K "Web") "_numbers" := ⟨T.c_Web, T.n_Web__numbers⟩
  haveI : FldI K (He.ga K "Standing") "web" := ⟨T.c_Standing, T.n_Standing_web⟩
  haveI : FldI K (He.ga K "Standing") "_modes" := ⟨T.c_Standing, T.n_Standing__modes⟩
  haveI : FldI K (He.ga K "Standing") "_holds" := ⟨T.c_Standing, T.n_Standing__holds⟩
  haveI : FldI K (He.ga K "Standing") "_loose" := ⟨T.c_Standing, T.n_Standing__loose⟩
  haveI : FldI K (He.ga K "Weaving") "web" := ⟨T.c_Weaving, T.n_Weaving_web⟩
  haveI : FldI K (He.ga K "Weaving") "_events" := ⟨T.c_Weaving, T.n_Weaving__events⟩
  haveI : FldI K (He.ga K "Weaving") "_standings" := ⟨T.c_Weaving, T.n_Weaving__standings⟩
  haveI : FldI K (He.ga K "Weaving") "_lockers" := ⟨T.c_Weaving, T.n_Weaving__lockers⟩
  haveI : FldI K (He.ga K "Weaving") "_edges" := ⟨T.c_Weaving, T.n_Weaving__edges⟩
  haveI := T.v_Shape_MARKS
  haveI := T.v_Shape_PARENTS
  haveI := T.v_Web_MOST
  haveI := T.i_DEEDS
  haveI := T.i_MODES
  refine metD T.c_Shape T.m_Shape_modes_of T.f_Shape_modes_of sc_Shape_modes_of (fun _ _ _ _ _ _ us hl => match us, hl with | [_, _], _ => rfl) (fun _ => rfl) (fun cdv A outer s H E hr => ?_)
  have hu := hu_of hr
  have hu64 := hu64_of hr
  have hu65 := hu65_of hr
  refine ⟨_, (pss_cons (ps_if (pt_val (pe_ix (ixU K) (pe_subI C_Shapedd_getitemdd hr (by decide) (getfn T.m_Shapedd_getitemdd T.f_Shapedd_getitemdd) (pv 0) (pv 1)) pe_int (fun _ _ => rfl))) (pss_one (ps_ret (pe_gc (by rfl) T.k_MODES))) pss_nil)
    (pss_one (ps_ret (pe_slice (slTup K) (pe_gc (by rfl) T.k_MODES) po_none (po_some pe_int))))), ?_⟩
  rintro ⟨ms, rows, r⟩ L g fr Q ⟨o1, o2⟩ hR
  dsimp only at o1 o2
  show Gk L [some (rShape K ms rows), some (rS r.mark)] [g] fr _
  walk_at "g"
  refine k_subIn (c := ct_Shapedd_getitemdd K) ⟨ms, rows, r⟩ rfl rfl ⟨o1, o2⟩ ?_
  rintro - -
  conv => arg 3; dsimp only [ct_Shapedd_getitemdd]
  conv => arg 4; dsimp only [ct_Shapedd_getitemdd, List.nil_append]
  walk_at "g"
  · rename_i hs
    have e : modesOf r.shared = (["own", "share"] : List Str) := by unfold modesOf; rw [if_pos hs]
    refine k_fin hR () trivial (fun K1 h => ?_)
    have h : Gk L _ [rTk K ((modesOf r.shared).map rS), g] _ K1 := h
    rw [e] at h
    exact h
  · rename_i hs
    have e : modesOf r.shared = (["own"] : List Str) := by unfold modesOf; rw [if_neg (by rw [hs]; exact Bool.false_ne_true)]
    refine k_slT (qs := (["own", "share"] : List Str).map rS) (fun z => absurd z.2 (by decide)) ?_
    refine k_top (fun B v h => rTp_rTk (F := K) B v h) ?_
    refine k_fin hR () trivial (fun K1 h => ?_)
    have h : Gk L _ [rTk K ((modesOf r.shared).map rS), g] _ K1 := h
    rw [e] at h
    exact h

end


/-! Web.__init__ -/
def ct_Webdd_initdd (K : PySem.W.Frag) : Ct where
  δ := Addr × List Str × List Row
  ε := Addr × Addr
  ok d := RowsOk d.2.1 d.2.2
  pre d := [rA d.1, rShape K d.2.1 d.2.2]
  own d := [oIn d.1 (He.ga K "Web") []]
  post _ _ := True
  ret _ _ := rN
  out d e := webO K ⟨d.2.1, d.2.2, [], false, d.1, e.1, e.2⟩
section
variable {P : Program} {w : World} {K : PySem.W.Frag} {mg : Str → Option Value} {base : Heap}
set_option maxHeartbeats 4000000 in
theorem ok_Webdd_initdd (T : Txt K mg)  : Mak P w K mg base 1 "Web" (He.ga K "Web") (Fn (ct_Webdd_initdd K)) [] := by
  haveI : FldI K (He.ga K "Shape") "_listed" := ⟨T.c_Shape, T.n_Shape__listed⟩
  haveI : FldI K (He.ga K "Shape") "_marks" := ⟨T.c_Shape, T.n_Shape__marks⟩
  haveI : FldI K (He.ga K "Web") "shape" := ⟨T.c_Web, T.n_Web_shape⟩
  haveI : FldI K (He.ga K "Web") "_rows" := ⟨T.c_Web, T.n_Web__rows⟩
  haveI : FldI K (He.ga K "Web") "_numbers" := ⟨T.c_Web, T.n_Web__numbers⟩
  haveI : FldI K (He.ga K "Standing") "web" := ⟨T.c_Standing, T.n_Standing_web⟩
  haveI : FldI K (He.ga K "Standing") "_modes" := ⟨T.c_Standing, T.n_Standing__modes⟩
  haveI : FldI K (He.ga K "Standing") "_holds" := ⟨T.c_Standing, T.n_Standing__holds⟩
  haveI : FldI K (He.ga K "Standing") "_loose" := ⟨T.c_Standing, T.n_Standing__loose⟩
  haveI : FldI K (He.ga K "Weaving") "web" := ⟨T.c_Weaving, T.n_Weaving_web⟩
  haveI : FldI K (He.ga K "Weaving") "_events" := ⟨T.c_Weaving, T.n_Weaving__events⟩
  haveI : FldI K (He.ga K "Weaving") "_standings" := ⟨T.c_Weaving, T.n_Weaving__standings⟩
  haveI : FldI K (He.ga K "Weaving") "_lockers" := ⟨T.c_Weaving, T.n_Weaving__lockers⟩
  haveI : FldI K (He.ga K "Weaving") "_edges" := ⟨T.c_Weaving, T.n_Weaving__edges⟩
  haveI := T.v_Shape_MARKS
  haveI := T.v_Shape_PARENTS
  haveI := T.v_Web_MOST
  haveI := T.i_DEEDS
  haveI := T.i_MODES
  refine makD T.mk_Web T.g_Webdd_initdd T.f_Webdd_initdd sc_Webdd_initdd (fun _ _ _ _ _ _ us hl => match us, hl with | [_, _], _ => rfl) (fun _ => rfl) (fun cdv A outer s H E hr => ?_)
  have hu := hu_of hr
  have hu64 := hu64_of hr
  have hu65 := hu65_of hr
  refine ⟨_, (pss_cons (ps_fld (pv 0) (pv 1) rfl)
    (pss_cons (ps_fld (pv 0) (pe_lst pa_nil) rfl)
    (pss_one (ps_fld (pv 0) (pe_lst pa_nil) rfl)))), ?_⟩
  rintro ⟨x, ms, rows⟩ L g fr Q o hR
  show Gk L [some (rA x), some (rShape K ms rows)] [g] (oIn x (He.ga K "Web") [] :: fr) _
  walk_at "g0"
  refine k_sfld T.c_Web T.n_Web_shape (by decide) ?_
  walk_at "g0"
  rename_i p1
  refine k_sfld T.c_Web T.n_Web__rows (by show 1 < 900; decide) ?_
  walk_at "g0"
  rename_i p2
  refine k_sfld T.c_Web T.n_Web__numbers (by show 2 < 900; decide) ?_
  refine k_perm (os' := oIn x (He.ga K "Web") (webG K ms rows p1 p2) :: oLs p1 [] :: oLs p2 [] :: fr) ?_ ?_
  · exact (List.Perm.swap _ _ _).trans (((List.Perm.swap _ _ _).cons _).trans (List.Perm.swap _ _ _))
  exact k_finN hR (p1, p2) trivial (fun _ h => h)

end


/-! Web.__contains__ -/
def ct_Webdd_containsdd (K : PySem.W.Frag) : Ct where
  δ := WebD × Int
  ε := Unit
  ok d := WebOk d.1
  pre d := [webR K d.1, G.rI d.2]
  own d := webO K d.1
  post _ _ := True
  ret d _ := rB (decide (0 ≤ d.2) && decide (d.2 < d.1.ts.length))
  out d _ := webO K d.1
section
variable {P : Program} {w : World} {K : PySem.W.Frag} {mg : Str → Option Value} {base : Heap}
set_option maxHeartbeats 4000000 in
theorem ok_Webdd_containsdd (T : Txt K mg)  : Met P w K mg base 1 (He.ga K "Web") "__contains__" (Fn (ct_Webdd_containsdd K)) [] := by
  haveI : FldI K (He.ga K "Shape") "_listed" := ⟨T.c_Shape, T.n_Shape__listed⟩
  haveI : FldI K (He.ga K "Shape") "_marks" := ⟨T.c_Shape, T.n_Shape__marks⟩
  haveI : FldI K (He.ga K "Web") "shape" := ⟨T.c_Web, T.n_Web_shape⟩
  haveI : FldI K (He.ga K "Web") "_rows" := ⟨T.c_Web, T.n_Web__rows⟩
  haveI : FldI K (He.ga K "Web") "_numbers" := ⟨T.c_Web, T.n_Web__numbers⟩
  haveI : FldI K (He.ga K "Standing") "web" := ⟨T.c_Standing, T.n_Standing_web⟩
  haveI : FldI K (He.ga K "Standing") "_modes" := ⟨T.c_Standing, T.n_Standing__modes⟩
  haveI : FldI K (He.ga K "Standing") "_holds" := ⟨T.c_Standing, T.n_Standing__holds⟩
  haveI : FldI K (He.ga K "Standing") "_loose" := ⟨T.c_Standing, T.n_Standing__loose⟩
  haveI : FldI K (He.ga K "Weaving") "web" := ⟨T.c_Weaving, T.n_Weaving_web⟩
  haveI : FldI K (He.ga K "Weaving") "_events" := ⟨T.c_Weaving, T.n_Weaving__events⟩
  haveI : FldI K (He.ga K "Weaving") "_standings" := ⟨T.c_Weaving, T.n_Weaving__standings⟩
  haveI : FldI K (He.ga K "Weaving") "_lockers" := ⟨T.c_Weaving, T.n_Weaving__lockers⟩
  haveI : FldI K (He.ga K "Weaving") "_edges" := ⟨T.c_Weaving, T.n_Weaving__edges⟩
  haveI := T.v_Shape_MARKS
  haveI := T.v_Shape_PARENTS
  haveI := T.v_Web_MOST
  haveI := T.i_DEEDS
  haveI := T.i_MODES
  refine metD T.c_Web T.m_Webdd_containsdd T.f_Webdd_containsdd sc_Webdd_containsdd (fun _ _ _ _ _ _ us hl => match us, hl with | [_, _], _ => rfl) (fun _ => rfl) (fun cdv A outer s H E hr => ?_)
  have hu := hu_of hr
  have hu64 := hu64_of hr
  have hu65 := hu65_of hr
  refine ⟨_, (pss_one (ps_ret (pe_chain op_le op_lt pe_int (pv 1) (pe_callB (lenU K) (by rfl) T.z_len PySem.boot_len (pa_cons (fldU K (pv 0)) pa_nil))))), ?_⟩
  rintro ⟨⟨ms, rows, ts, fz, x, pr, pn⟩, t⟩ L g fr Q ⟨o1, o2, o3, o4⟩ hR
  dsimp only at o1 o2 o3 o4
  cases fz with
  | true =>
    show Gk L [some (rWeb K ms rows ts), some (G.rI t)] [g] fr _
    walk_at "g0"
    refine k_chJ (c := decide (t < (ts.length : Int))) (fun _ K1 h => ?_) ?_
    · walk_at "g0"
      exact h
    exact k_fin hR () trivial (fun _ h => h)
  | false =>
    show Gk L [some (rA x), some (G.rI t)] [g] (oIn x (He.ga K "Web") (webG K ms rows pr pn) :: oLs pr (ts.map rWRow) :: oLs pn ((nums ts.length).map G.rI) :: fr) _
    walk_at "g0"
    refine k_chJ (c := decide (t < (ts.length : Int))) (fun _ K1 h => ?_) ?_
    · walk_at "g0"
      exact h
    exact k_fin hR () trivial (fun _ h => h)

end


/-! Web.__eq__ -/
structure WeqD where
  ms : List Str
  rows : List Row
  ts : List Thing
  us : List Thing
structure WeqOk (d : WeqD) : Prop where
  rows : RowsOk d.ms d.rows
  ts : ThingsOk d.rows d.ts
  us : ThingsOk d.rows d.us
def ct_Webdd_eqdd (K : PySem.W.Frag) : Ct where
  δ := WeqD
  ε := Bool
  ok := WeqOk
  pre d := [rWeb K d.ms d.rows d.ts, rWeb K d.ms d.rows d.us]
  own d := []
  post d e := e = true ↔ sameT d.ts d.us
  ret d e := rB e
  out d _ := []
section
variable {P : Program} {w : World} {K : PySem.W.Frag} {mg : Str → Option Value} {base : Heap}
set_option maxHeartbeats 4000000 in
theorem ok_Webdd_eqdd (T : Txt K mg) (C_Shapedd_eqdd : Met P w K mg base 1 (He.ga K "Shape") "__eq__" (Fn (ct_Shapedd_eqdd K)) []) : Met P w K mg base 2 (He.ga K "Web") "__eq__" (Fn (ct_Webdd_eqdd K)) [] := by
  haveI : FldI K (He.ga K "Shape") "_listed" := ⟨T.c_Shape, T.n_Shape__listed⟩
  haveI : FldI K (He.ga K "Shape") "_marks" := ⟨T.c_Shape, T.n_Shape__marks⟩
  haveI : FldI K (He.ga K "Web") "shape" := ⟨T.c_Web, T.n_Web_shape⟩
  haveI : FldI K (He.ga K "Web") "_rows" := ⟨T.c_Web, T.n_Web__rows⟩
  haveI : FldI K (He.ga K "Web") "_numbers" := ⟨T.c_Web, T.n_Web__numbers⟩
  haveI : FldI K (He.ga K "Standing") "web" := ⟨T.c_Standing, T.n_Standing_web⟩
  haveI : FldI K (He.ga K "Standing") "_modes" := ⟨T.c_Standing, T.n_Standing__modes⟩
  haveI : FldI K (He.ga K "Standing") "_holds" := ⟨T.c_Standing, T.n_Standing__holds⟩
  haveI : FldI K (He.ga K "Standing") "_loose" := ⟨T.c_Standing, T.n_Standing__loose⟩
  haveI : FldI K (He.ga K "Weaving") "web" := ⟨T.c_Weaving, T.n_Weaving_web⟩
  haveI : FldI K (He.ga K "Weaving") "_events" := ⟨T.c_Weaving, T.n_Weaving__events⟩
  haveI : FldI K (He.ga K "Weaving") "_standings" := ⟨T.c_Weaving, T.n_Weaving__standings⟩
  haveI : FldI K (He.ga K "Weaving") "_lockers" := ⟨T.c_Weaving, T.n_Weaving__lockers⟩
  haveI : FldI K (He.ga K "Weaving") "_edges" := ⟨T.c_Weaving, T.n_Weaving__edges⟩
  haveI := T.v_Shape_MARKS
  haveI := T.v_Shape_PARENTS
  haveI := T.v_Web_MOST
  haveI := T.i_DEEDS
  haveI := T.i_MODES
  refine metD T.c_Web T.m_Webdd_eqdd T.f_Webdd_eqdd sc_Webdd_eqdd (fun _ _ _ _ _ _ us hl => match us, hl with | [_, _], _ => rfl) (fun _ => rfl) (fun cdv A outer s H E hr => ?_)
  have hu := hu_of hr
  have hu64 := hu64_of hr
  have hu65 := hu65_of hr
  refine ⟨_, (pss_one (ps_ret (pe_and (pe_callB (isC K T.i_Web) (by rfl) T.z_isinstance (by decide +kernel) (pa_cons (pv 1) (pa_cons (pe_gc (v := .ref (He.ga K "Web")) (by rfl) ⟨_, T.g_Webdd_initdd, rfl⟩) pa_nil))) (pe_and (pe_cmpR (op_eqI C_Shapedd_eqdd hr (by decide)) (fldU K (pv 0)) (fldU K (pv 1)) (nomark _)) (pe_one (pe_cmpR (eqU K hu64) (fldU K (pv 0)) (fldU K (pv 1)) (nomark _))))))), ?_⟩
  rintro ⟨ms, rows, ts, us⟩ L g fr Q ⟨o1, o2, o3⟩ hR
  dsimp only at o1 o2 o3
  show Gk L [some (rWeb K ms rows ts), some (rWeb K ms rows us)] [g] fr _
  walk_at "g0"
  refine k_andV (c := PyData.eqv (.list (ts.map wrowD)) (.list (us.map wrowD))) (fun _ K' h => ?_) ?_
  · walk_at "g0"
    refine k_eqIn (c := ct_Shapedd_eqdd K) (fr := fr) (ms, rows) rfl rfl o1 (fun _ => true) (fun _ _ => rfl) ?_
    rintro - -
    refine k_andV (c := PyData.eqv (.list (ts.map wrowD)) (.list (us.map wrowD))) (fun _ K2 h2 => ?_) h
    show Gk L _ _ fr _
    walk_at "g0"
    refine k_eqD ((shp_things o1 o2).shaped (by omega)) ((shp_things o1 o3).shaped (by omega)) ?_
    exact h2
  · exact k_fin hR (PyData.eqv (.list (ts.map wrowD)) (.list (us.map wrowD))) eqv_things (fun _ h => h)

end


/-! Standing.__init__ -/
def ct_Standingdd_initdd (K : PySem.W.Frag) : Ct where
  δ := Addr × List Str × List Row × List Thing
  ε := Addr × Addr
  ok d := True
  pre d := [rA d.1, rWeb K d.2.1 d.2.2.1 d.2.2.2]
  own d := [oIn d.1 (He.ga K "Standing") []]
  post _ _ := True
  ret _ _ := rN
  out d e := [oIn d.1 (He.ga K "Standing") (standG K d.2.1 d.2.2.1 d.2.2.2 e.1 e.2 false), oDk e.1 [], oDk e.2 []]
section
variable {P : Program} {w : World} {K : PySem.W.Frag} {mg : Str → Option Value} {base : Heap}
set_option maxHeartbeats 4000000 in
theorem ok_Standingdd_initdd (T : Txt K mg)  : Mak P w K mg base 1 "Standing" (He.ga K "Standing") (Fn (ct_Standingdd_initdd K)) [] := by
  haveI : FldI K (He.ga K "Shape") "_listed" := ⟨T.c_Shape, T.n_Shape__listed⟩
  haveI : FldI K (He.ga K "Shape") "_marks" := ⟨T.c_Shape, T.n_Shape__marks⟩
  haveI : FldI K (He.ga K "Web") "shape" := ⟨T.c_Web, T.n_Web_shape⟩
  haveI : FldI K (He.ga K "Web") "_rows" := ⟨T.c_Web, T.n_Web__rows⟩
  haveI : FldI K (He.ga K "Web") "_numbers" := ⟨T.c_Web, T.n_Web__numbers⟩
  haveI : FldI K (He.ga K "Standing") "web" := ⟨T.c_Standing, T.n_Standing_web⟩
  haveI : FldI K (He.ga K "Standing") "_modes" := ⟨T.c_Standing, T.n_Standing__modes⟩
  haveI : FldI K (He.ga K "Standing") "_holds" := ⟨T.c_Standing, T.n_Standing__holds⟩
  haveI : FldI K (He.ga K "Standing") "_loose" := ⟨T.c_Standing, T.n_Standing__loose⟩
  haveI : FldI K (He.ga K "Weaving") "web" := ⟨T.c_Weaving, T.n_Weaving_web⟩
  haveI : FldI K (He.ga K "Weaving") "_events" := ⟨T.c_Weaving, T.n_Weaving__events⟩
  haveI : FldI K (He.ga K "Weaving") "_standings" := ⟨T.c_Weaving, T.n_Weaving__standings⟩
  haveI : FldI K (He.ga K "Weaving") "_lockers" := ⟨T.c_Weaving, T.n_Weaving__lockers⟩
  haveI : FldI K (He.ga K "Weaving") "_edges" := ⟨T.c_Weaving, T.n_Weaving__edges⟩
  haveI := T.v_Shape_MARKS
  haveI := T.v_Shape_PARENTS
  haveI := T.v_Web_MOST
  haveI := T.i_DEEDS
  haveI := T.i_MODES
  refine makD T.mk_Standing T.g_Standingdd_initdd T.f_Standingdd_initdd sc_Standingdd_initdd (fun _ _ _ _ _ _ us hl => match us, hl with | [_, _], _ => rfl) (fun _ => rfl) (fun cdv A outer s H E hr => ?_)
  have hu := hu_of hr
  have hu64 := hu64_of hr
  have hu65 := hu65_of hr
  refine ⟨_, (pss_cons (ps_fld (pv 0) (pv 1) rfl)
    (pss_cons (ps_fld (pv 0) pe_dnewK rfl)
    (pss_cons (ps_fld (pv 0) pe_dnewK rfl)
    (pss_one (ps_fld (pv 0) pe_bl rfl))))), ?_⟩
  rintro ⟨x, ms, rows, ts⟩ L g fr Q o hR
  show Gk L [some (rA x), some (rWeb K ms rows ts)] [g] (oIn x (He.ga K "Standing") [] :: fr) _
  walk_at "g0"
  refine k_sfld T.c_Standing T.n_Standing_web (by decide) ?_
  walk_at "g0"
  rename_i p1
  refine k_sfld T.c_Standing T.n_Standing__modes (by show 1 < 900; decide) ?_
  walk_at "g0"
  rename_i p2
  refine k_sfld T.c_Standing T.n_Standing__holds (by show 2 < 900; decide) ?_
  walk_at "g0"
  refine k_sfld T.c_Standing T.n_Standing__loose (by show 3 < 900; decide) ?_
  refine k_perm (os' := oIn x (He.ga K "Standing") (standG K ms rows ts p1 p2 false) :: oDk p1 [] :: oDk p2 [] :: fr) ?_ ?_
  · exact (List.Perm.swap _ _ _).trans (((List.Perm.swap _ _ _).cons _).trans (List.Perm.swap _ _ _))
  exact k_finN hR (p1, p2) trivial (fun _ h => h)

end


/-! Standing.held_mode -/
structure HmD where
  ms : List Str
  rows : List Row
  ts : List Thing
  st : StD
  t : Int
def ct_Standing_held_mode (K : PySem.W.Frag) : Ct where
  δ := HmD
  ε := Unit
  ok _ := True
  pre d := [rStand K d.ms d.rows d.ts d.st, G.rI d.t]
  own d := []
  post _ _ := True
  ret d _ := rS (heldM d.st d.t)
  out d _ := []
section
variable {P : Program} {w : World} {K : PySem.W.Frag} {mg : Str → Option Value} {base : Heap}
set_option maxHeartbeats 4000000 in
theorem ok_Standing_held_mode (T : Txt K mg)  : Met P w K mg base 1 (He.ga K "Standing") "held_mode" (Fn (ct_Standing_held_mode K)) [] := by
  haveI : FldI K (He.ga K "Shape") "_listed" := ⟨T.c_Shape, T.n_Shape__listed⟩
  haveI : FldI K (He.ga K "Shape") "_marks" := ⟨T.c_Shape, T.n_Shape__marks⟩
  haveI : FldI K (He.ga K "Web") "shape" := ⟨T.c_Web, T.n_Web_shape⟩
  haveI : FldI K (He.ga K "Web") "_rows" := ⟨T.c_Web, T.n_Web__rows⟩
  haveI : FldI K (He.ga K "Web") "_numbers" := ⟨T.c_Web, T.n_Web__numbers⟩
  haveI : FldI K (He.ga K "Standing") "web" := ⟨T.c_Standing, T.n_Standing_web⟩
  haveI : FldI K (He.ga K "Standing") "_modes" := ⟨T.c_Standing, T.n_Standing__modes⟩
  haveI : FldI K (He.ga K "Standing") "_holds" := ⟨T.c_Standing, T.n_Standing__holds⟩
  haveI : FldI K (He.ga K "Standing") "_loose" := ⟨T.c_Standing, T.n_Standing__loose⟩
  haveI : FldI K (He.ga K "Weaving") "web" := ⟨T.c_Weaving, T.n_Weaving_web⟩
  haveI : FldI K (He.ga K "Weaving") "_events" := ⟨T.c_Weaving, T.n_Weaving__events⟩
  haveI : FldI K (He.ga K "Weaving") "_standings" := ⟨T.c_Weaving, T.n_Weaving__standings⟩
  haveI : FldI K (He.ga K "Weaving") "_lockers" := ⟨T.c_Weaving, T.n_Weaving__lockers⟩
  haveI : FldI K (He.ga K "Weaving") "_edges" := ⟨T.c_Weaving, T.n_Weaving__edges⟩
  haveI := T.v_Shape_MARKS
  haveI := T.v_Shape_PARENTS
  haveI := T.v_Web_MOST
  haveI := T.i_DEEDS
  haveI := T.i_MODES
  refine metD T.c_Standing T.m_Standing_held_mode T.f_Standing_held_mode sc_Standing_held_mode (fun _ _ _ _ _ _ us hl => match us, hl with | [_, _], _ => rfl) (fun _ => rfl) (fun cdv A outer s H E hr => ?_)
  have hu := hu_of hr
  have hu64 := hu64_of hr
  have hu65 := hu65_of hr
  refine ⟨_, (pss_one (ps_ret (pe_dget2 hu (fldU K (pv 0)) (pv 1) pe_str ⟨rfl, rfl, rfl, rfl⟩))), ?_⟩
  rintro ⟨ms, rows, ts, s, t⟩ L g fr Q - hR
  show Gk L [some (rStand K ms rows ts s), some (G.rI t)] [g] fr _
  walk_at "g0"
  refine k_dget2k ?_
  rw [heldM_get]
  exact k_fin hR () trivial (fun _ h => h)

end


/-! Weaving.__init__ -/
def ct_Weavingdd_initdd (K : PySem.W.Frag) : Ct where
  δ := Addr × List Str × List Row × List Thing
  ε := Addr × Addr × Addr × Addr
  ok d := True
  pre d := [rA d.1, rWeb K d.2.1 d.2.2.1 d.2.2.2]
  own d := [oIn d.1 (He.ga K "Weaving") []]
  post _ _ := True
  ret _ _ := rN
  out d e := wvO K ⟨d.2.1, d.2.2.1, d.2.2.2, [], []⟩ ⟨d.1, e.1, e.2.1, e.2.2.1, e.2.2.2⟩
section
variable {P : Program} {w : World} {K : PySem.W.Frag} {mg : Str → Option Value} {base : Heap}
set_option maxHeartbeats 4000000 in
theorem ok_Weavingdd_initdd (T : Txt K mg)  : Mak P w K mg base 1 "Weaving" (He.ga K "Weaving") (Fn (ct_Weavingdd_initdd K)) [] := by
  haveI : FldI K (He.ga K "Shape") "_listed" := ⟨T.c_Shape, T.n_Shape__listed⟩
  haveI : FldI K (He.ga K "Shape") "_marks" := ⟨T.c_Shape, T.n_Shape__marks⟩
  haveI : FldI K (He.ga K "Web") "shape" := ⟨T.c_Web, T.n_Web_shape⟩
  haveI : FldI K (He.ga K "Web") "_rows" := ⟨T.c_Web, T.n_Web__rows⟩
  haveI : FldI K (He.ga K "Web") "_numbers" := ⟨T.c_Web, T.n_Web__numbers⟩
  haveI : FldI K (He.ga K "Standing") "web" := ⟨T.c_Standing, T.n_Standing_web⟩
  haveI : FldI K (He.ga K "Standing") "_modes" := ⟨T.c_Standing, T.n_Standing__modes⟩
  haveI : FldI K (He.ga K "Standing") "_holds" := ⟨T.c_Standing, T.n_Standing__holds⟩
  haveI : FldI K (He.ga K "Standing") "_loose" := ⟨T.c_Standing, T.n_Standing__loose⟩
  haveI : FldI K (He.ga K "Weaving") "web" := ⟨T.c_Weaving, T.n_Weaving_web⟩
  haveI : FldI K (He.ga K "Weaving") "_events" := ⟨T.c_Weaving, T.n_Weaving__events⟩
  haveI : FldI K (He.ga K "Weaving") "_standings" := ⟨T.c_Weaving, T.n_Weaving__standings⟩
  haveI : FldI K (He.ga K "Weaving") "_lockers" := ⟨T.c_Weaving, T.n_Weaving__lockers⟩
  haveI : FldI K (He.ga K "Weaving") "_edges" := ⟨T.c_Weaving, T.n_Weaving__edges⟩
  haveI := T.v_Shape_MARKS
  haveI := T.v_Shape_PARENTS
  haveI := T.v_Web_MOST
  haveI := T.i_DEEDS
  haveI := T.i_MODES
  refine makD T.mk_Weaving T.g_Weavingdd_initdd T.f_Weavingdd_initdd sc_Weavingdd_initdd (fun _ _ _ _ _ _ us hl => match us, hl with | [_, _], _ => rfl) (fun _ => rfl) (fun cdv A outer s H E hr => ?_)
  have hu := hu_of hr
  have hu64 := hu64_of hr
  have hu65 := hu65_of hr
  refine ⟨_, (pss_cons (ps_fld (pv 0) (pv 1) rfl)
    (pss_cons (ps_fld (pv 0) (pe_lst pa_nil) rfl)
    (pss_cons (ps_fld (pv 0) pe_dnewK rfl)
    (pss_cons (ps_fld (pv 0) pe_dnewK rfl)
    (pss_one (ps_fld (pv 0) pe_dnewT rfl)))))), ?_⟩
  rintro ⟨x, ms, rows, ts⟩ L g fr Q o hR
  show Gk L [some (rA x), some (rWeb K ms rows ts)] [g] (oIn x (He.ga K "Weaving") [] :: fr) _
  walk_at "g0"
  refine k_sfld T.c_Weaving T.n_Weaving_web (by decide) ?_
  walk_at "g0"
  rename_i pe
  refine k_sfld T.c_Weaving T.n_Weaving__events (by show 1 < 900; decide) ?_
  walk_at "g0"
  rename_i ps
  refine k_sfld T.c_Weaving T.n_Weaving__standings (by show 2 < 900; decide) ?_
  walk_at "g0"
  rename_i pl
  refine k_sfld T.c_Weaving T.n_Weaving__lockers (by show 3 < 900; decide) ?_
  walk_at "g0"
  rename_i pd
  refine k_sfld T.c_Weaving T.n_Weaving__edges (by show 4 < 900; decide) ?_
  refine k_perm (os' := wvO K ⟨ms, rows, ts, [], []⟩ ⟨x, pe, ps, pl, pd⟩ ++ fr) ?_ ?_
  · exact (List.reverse_perm [oDt pd [], oDk pl [], oDk ps [], oLs pe [], oIn x (He.ga K "Weaving") (wvG K ⟨ms, rows, ts, [], []⟩ ⟨x, pe, ps, pl, pd⟩)]).symm.append_right fr
  exact k_finN hR (pe, ps, pl, pd) trivial (fun _ h => h)

end


/-! Weaving.__len__ -/
def ct_Weavingdd_lendd (K : PySem.W.Frag) : Ct where
  δ := WvD × Option WvA
  ε := Unit
  ok d := True
  pre d := [wvR K d.1 d.2]
  own d := wvU K d.1 d.2
  post d e := True
  ret d _ := G.rI d.1.evs.length
  out d _ := wvU K d.1 d.2
section
variable {P : Program} {w : World} {K : PySem.W.Frag} {mg : Str → Option Value} {base : Heap}
set_option maxHeartbeats 4000000 in
theorem ok_Weavingdd_lendd (T : Txt K mg)  : Met P w K mg base 1 (He.ga K "Weaving") "__len__" (Fn (ct_Weavingdd_lendd K)) [] := by
  haveI : FldI K (He.ga K "Shape") "_listed" := ⟨T.c_Shape, T.n_Shape__listed⟩
  haveI : FldI K (He.ga K "Shape") "_marks" := ⟨T.c_Shape, T.n_Shape__marks⟩
  haveI : FldI K (He.ga K "Web") "shape" := ⟨T.c_Web, T.n_Web_shape⟩
  haveI : FldI K (He.ga K "Web") "_rows" := ⟨T.c_Web, T.n_Web__rows⟩
  haveI : FldI K (He.ga K "Web") "_numbers" := ⟨T.c_Web, T.n_Web__numbers⟩
  haveI : FldI K (He.ga K "Standing") "web" := ⟨T.c_Standing, T.n_Standing_web⟩
  haveI : FldI K (He.ga K "Standing") "_modes" := ⟨T.c_Standing, T.n_Standing__modes⟩
  haveI : FldI K (He.ga K "Standing") "_holds" := ⟨T.c_Standing, T.n_Standing__holds⟩
  haveI : FldI K (He.ga K "Standing") "_loose" := ⟨T.c_Standing, T.n_Standing__loose⟩
  haveI : FldI K (He.ga K "Weaving") "web" := ⟨T.c_Weaving, T.n_Weaving_web⟩
  haveI : FldI K (He.ga K "Weaving") "_events" := ⟨T.c_Weaving, T.n_Weaving__events⟩
  haveI : FldI K (He.ga K "Weaving") "_standings" := ⟨T.c_Weaving, T.n_Weaving__standings⟩
  haveI : FldI K (He.ga K "Weaving") "_lockers" := ⟨T.c_Weaving, T.n_Weaving__lockers⟩
  haveI : FldI K (He.ga K "Weaving") "_edges" := ⟨T.c_Weaving, T.n_Weaving__edges⟩
  haveI := T.v_Shape_MARKS
  haveI := T.v_Shape_PARENTS
  haveI := T.v_Web_MOST
  haveI := T.i_DEEDS
  haveI := T.i_MODES
  refine metD T.c_Weaving T.m_Weavingdd_lendd T.f_Weavingdd_lendd sc_Weavingdd_lendd (fun _ _ _ _ _ _ us hl => match us, hl with | [_], _ => rfl) (fun _ => rfl) (fun cdv A outer s H E hr => ?_)
  have hu := hu_of hr
  have hu64 := hu64_of hr
  have hu65 := hu65_of hr
  refine ⟨_, (pss_one (ps_ret (pe_callB (lenU K) (by rfl) T.z_len PySem.boot_len (pa_cons (fldU K (pv 0)) pa_nil)))), ?_⟩
  rintro ⟨w, o⟩ L g fr Q - hR
  cases o with
  | none =>
    show Gk L [some (rWv K w)] [g] fr _
    walk_at "g0"
    exact k_fin hR () trivial (fun _ h => h)
  | some a =>
    obtain ⟨x, pe, ps, pl, pd⟩ := a
    show Gk L [some (rA x)] [g] (oIn x (He.ga K "Weaving") (wvG K w ⟨x, pe, ps, pl, pd⟩) :: oLs pe (w.evs.map rEv) :: oDk ps (standsKV K w.ms w.rows w.ts w.evs) :: oDk pl (lockersKV w.evs) :: oDt pd (edgesKV w.ed) :: fr) _
    walk_at "g0"
    exact k_fin hR () trivial (fun _ h => h)

end


/-! Weaving._ascending -/
def ct_Weavingddascending (K : PySem.W.Frag) : Ct where
  δ := WvD × Option WvA
  ε := List Int
  ok d := WvOk d.1
  pre d := [wvR K d.1 d.2]
  own d := wvU K d.1 d.2
  post d e := Asc d.1.evs e
  ret _ e := rLs (e.map G.rI)
  out d _ := wvU K d.1 d.2
section
variable {P : Program} {w : World} {K : PySem.W.Frag} {mg : Str → Option Value} {base : Heap}
set_option maxHeartbeats 4000000 in
theorem ok_Weavingddascending (T : Txt K mg)  : Met P w K mg base 1 (He.ga K "Weaving") "_ascending" (Fn (ct_Weavingddascending K)) [] := by
  haveI : FldI K (He.ga K "Shape") "_listed" := ⟨T.c_Shape, T.n_Shape__listed⟩
  haveI : FldI K (He.ga K "Shape") "_marks" := ⟨T.c_Shape, T.n_Shape__marks⟩
  haveI : FldI K (He.ga K "Web") "shape" := ⟨T.c_Web, T.n_Web_shape⟩
  haveI : FldI K (He.ga K "Web") "_rows" := ⟨T.c_Web, T.n_Web__rows⟩
  haveI : FldI K (He.ga K "Web") "_numbers" := ⟨T.c_Web, T.n_Web__numbers⟩
  haveI : FldI K (He.ga K "Standing") "web" := ⟨T.c_Standing, T.n_Standing_web⟩
  haveI : FldI K (He.ga K "Standing") "_modes" := ⟨T.c_Standing, T.n_Standing__modes⟩
  haveI : FldI K (He.ga K "Standing") "_holds" := ⟨T.c_Standing, T.n_Standing__holds⟩
  haveI : FldI K (He.ga K "Standing") "_loose" := ⟨T.c_Standing, T.n_Standing__loose⟩
  haveI : FldI K (He.ga K "Weaving") "web" := ⟨T.c_Weaving, T.n_Weaving_web⟩
  haveI : FldI K (He.ga K "Weaving") "_events" := ⟨T.c_Weaving, T.n_Weaving__events⟩
  haveI : FldI K (He.ga K "Weaving") "_standings" := ⟨T.c_Weaving, T.n_Weaving__standings⟩
  haveI : FldI K (He.ga K "Weaving") "_lockers" := ⟨T.c_Weaving, T.n_Weaving__lockers⟩
  haveI : FldI K (He.ga K "Weaving") "_edges" := ⟨T.c_Weaving, T.n_Weaving__edges⟩
  haveI := T.v_Shape_MARKS
  haveI := T.v_Shape_PARENTS
  haveI := T.v_Web_MOST
  haveI := T.i_DEEDS
  haveI := T.i_MODES
  refine metD T.c_Weaving T.m_Weavingddascending T.f_Weavingddascending sc_Weavingddascending (fun _ _ _ _ _ _ us hl => match us, hl with | [_], _ => rfl) (fun _ => rfl) (fun cdv A outer s H E hr => ?_)
  have hu := hu_of hr
  have hu64 := hu64_of hr
  have hu65 := hu65_of hr
  refine ⟨_, (pss_one (ps_ret (pe_callB (sortedU K) (by rfl) T.z_sorted (by decide +kernel) (pa_cons (pe_lockU (pe_lc (own := [("name", 1)]) rfl sc_Weavingddascending.nd (pi_keys (fldU K (pv 0))) (blkOk_by (own := [("name", 1)]) (N := N_Weavingddascending) (sc := (defScope s_Weavingddascending)) (by decide +kernel)) (fun _ _ _ _ _ => (pg_name (i := 1) sc_Weavingddascending.nd rfl (by first | exact Or.inl rfl | exact Or.inr rfl))) (fun _ _ _ _ _ => pts_nil) (fun _ _ _ _ _ => (pe_callTy c_int (by rfl) T.z_int (by decide +kernel) (pa_cons (pv 1) pa_nil))))) pa_nil)))), ?_⟩
  rintro ⟨w, o⟩ L g fr Q ⟨o1, o2, o3, o4⟩ hR
  dsimp only at o1 o2 o3 o4
  have hlen := namesOf_len w.evs
  have hkn : (standsKV K w.ms w.rows w.ts w.evs).length ≤ 10000 := by unfold standsKV; rw [kvOf_len]; omega
  have hkeys : (((standsKV K w.ms w.rows w.ts w.evs).filter fun _ => true).map fun x => rKey x.1) = (namesOf w.evs).map G.rI := by
    rw [show ((standsKV K w.ms w.rows w.ts w.evs).filter fun _ => true) = standsKV K w.ms w.rows w.ts w.evs from List.filter_eq_self.mpr fun _ _ => rfl]
    unfold standsKV kvOf
    rw [List.map_map]; rfl
  cases o with
  | none =>
    show Gk L [some (rWv K w), none] [g] fr _
    refine k_pinD 0 (f := "_standings") (kqs := standsKV K w.ms w.rows w.ts w.evs) rfl rfl fun y d => ?_
    show Gk L [some (rA y), none] [g] _ _
    walk_at "g0"
    refine k_lcKeys (w := ⟨rfl⟩) (d := d) (kqs := standsKV K w.ms w.rows w.ts w.evs) (fun L' gh K' h => ?_) (fun _ => true) (fun x => rKey x.1) _ hkn (fun x => gok_nm rfl (by decide)) (fun L' x hx gx gx' D acc K2 h => ?_) (fun L' x hx hp gx gx' D acc K' h => ?_) (fun D => ?_)
    · walk_at "g0"
      exact h
    · walk_at "cm"
      walk_at "g0"
      exact h
    · obtain ⟨n, hn, rfl⟩ := List.mem_map.mp hx
      walk_at "cm"
      change Gk L' [some (rA y), some (G.rI n)] _ _ _
      walk_at "g0"
      exact h
    rw [hkeys]
    walk_at "g0"
    refine k_sorted (by omega) fun ns h1 h2 => ?_
    refine k_forget 0 ?_
    refine k_forget 0 ?_
    refine k_forget 0 ?_
    exact k_fin hR ns ⟨h1, h2⟩ (fun K1 h => h)
  | some a =>
    obtain ⟨x, pe, ps, pl, pd⟩ := a
    show Gk L [some (rA x), none] [g] (oIn x (He.ga K "Weaving") (wvG K w ⟨x, pe, ps, pl, pd⟩) :: oLs pe (w.evs.map rEv) :: oDk ps (standsKV K w.ms w.rows w.ts w.evs) :: oDk pl (lockersKV w.evs) :: oDt pd (edgesKV w.ed) :: fr) _
    walk_at "g0"
    refine k_lcKeysO (w := ⟨rfl⟩) (d := ps) (kqs := standsKV K w.ms w.rows w.ts w.evs) (fun od kvs gh K' h => ?_) (fun _ => true) (fun x => rKey x.1) _ hkn (fun x => gok_nm rfl (by decide)) (fun od kvs x hx gx gx' D acc K2 h => ?_) (fun od kvs x hx hp gx gx' D acc K' h => ?_) (fun D => ?_)
    · show Gk L [some (rA x), none] [gh, g] (oIn x _ _ :: oLs pe _ :: oFz ps od kvs _ :: oDk pl _ :: oDt pd _ :: fr) _
      walk_at "g0"
      exact h
    · walk_at "cm"
      walk_at "g0"
      exact h
    · obtain ⟨n, hn, rfl⟩ := List.mem_map.mp hx
      walk_at "cm"
      change Gk L [some (rA _), some (G.rI n)] _ _ _
      walk_at "g0"
      exact h
    rw [hkeys]
    walk_at "g0"
    refine k_sorted (by omega) fun ns h1 h2 => ?_
    refine k_forget 0 ?_
    exact k_fin hR ns ⟨h1, h2⟩ (fun K1 h => h)

end


/-! Weaving.holders -/
structure HoldD where
  w : WvD
  a : WvA
  t : Int
structure HoldOk (d : HoldD) : Prop where
  w : WvOk d.w
  t : 0 ≤ d.t ∧ d.t < d.w.ts.length
/-- who holds the thing, by the events -/
def Holders (evs : List Ev) (t : Int) (hs : List (Int × Deed)) : Prop := ∀ n d, (n, d) ∈ hs ↔ n ∈ namesOf evs ∧ (d = .own ∧ stF evs n t = 1 ∨ d = .share ∧ stF evs n t = 2)
def ct_Weaving_holders (K : PySem.W.Frag) : Ct where
  δ := HoldD
  ε := List (Int × Deed)
  ok := HoldOk
  pre d := [rA d.a.x, G.rI d.t]
  own d := wvO K d.w d.a
  post d e := Holders d.w.evs d.t e ∧ e.length ≤ 50
  ret _ e := rTp (e.map rNM)
  out d e := wvO K d.w d.a
section
variable {P : Program} {w : World} {K : PySem.W.Frag} {mg : Str → Option Value} {base : Heap}
set_option maxHeartbeats 4000000 in
theorem ok_Weaving_holders (T : Txt K mg) (C_Webdd_containsdd : Met P w K mg base 1 (He.ga K "Web") "__contains__" (Fn (ct_Webdd_containsdd K)) []) (C_Weavingddascending : Met P w K mg base 1 (He.ga K "Weaving") "_ascending" (Fn (ct_Weavingddascending K)) []) (C_Standing_held_mode : Met P w K mg base 1 (He.ga K "Standing") "held_mode" (Fn (ct_Standing_held_mode K)) []) : Met P w K mg base 2 (He.ga K "Weaving") "holders" (Fn (ct_Weaving_holders K)) [] := by
  haveI : FldI K (He.ga K "Shape") "_listed" := ⟨T.c_Shape, T.n_Shape__listed⟩
  haveI : FldI K (He.ga K "Shape") "_marks" := ⟨T.c_Shape, T.n_Shape__marks⟩
  haveI : FldI K (He.ga K "Web") "shape" := ⟨T.c_Web, T.n_Web_shape⟩
  haveI : FldI K (He.ga K "Web") "_rows" := ⟨T.c_Web, T.n_Web__rows⟩
  haveI : FldI K (He.ga K "Web") "_numbers" := ⟨T.c_Web, T.n_Web__numbers⟩
  haveI : FldI K (He.ga K "Standing") "web" := ⟨T.c_Standing, T.n_Standing_web⟩
  haveI : FldI K (He.ga K "Standing") "_modes" := ⟨T.c_Standing, T.n_Standing__modes⟩
  haveI : FldI K (He.ga K "Standing") "_holds" := ⟨T.c_Standing, T.n_Standing__holds⟩
  haveI : FldI K (He.ga K "Standing") "_loose" := ⟨T.c_Standing, T.n_Standing__loose⟩
  haveI : FldI K (He.ga K "Weaving") "web" := ⟨T.c_Weaving, T.n_Weaving_web⟩
  haveI : FldI K (He.ga K "Weaving") "_events" := ⟨T.c_Weaving, T.n_Weaving__events⟩
  haveI : FldI K (He.ga K "Weaving") "_standings" := ⟨T.c_Weaving, T.n_Weaving__standings⟩
  haveI : FldI K (He.ga K "Weaving") "_lockers" := ⟨T.c_Weaving, T.n_Weaving__lockers⟩
  haveI : FldI K (He.ga K "Weaving") "_edges" := ⟨T.c_Weaving, T.n_Weaving__edges⟩
  haveI := T.v_Shape_MARKS
  haveI := T.v_Shape_PARENTS
  haveI := T.v_Web_MOST
  haveI := T.i_DEEDS
  haveI := T.i_MODES
  refine metD T.c_Weaving T.m_Weaving_holders T.f_Weaving_holders sc_Weaving_holders (fun _ _ _ _ _ _ us hl => match us, hl with | [_, _], _ => rfl) (fun _ => rfl) (fun cdv A outer s H E hr => ?_)
  have hu := hu_of hr
  have hu64 := hu64_of hr
  have hu65 := hu65_of hr
  refine ⟨_, (pss_cons (ps_if (pt_cmpR (op_notInI C_Webdd_containsdd hr (by decide)) (pv 1) (fldU K (pv 0)) rfl) pss_never pss_nil)
    (pss_cons (ps_set (i := 2) sc_Weaving_holders.nd rfl (by first | exact Or.inl rfl | exact Or.inr rfl) (pe_lst pa_nil))
    (pss_cons (ps_for PassesOwn.never rfl (piL K (pe_mt0 C_Weavingddascending hr (by decide) (pv 0))) (pg_name (i := 3) sc_Weaving_holders.nd rfl (by first | exact Or.inl rfl | exact Or.inr rfl))
    (pss_cons (ps_set (i := 4) sc_Weaving_holders.nd rfl (by first | exact Or.inl rfl | exact Or.inr rfl) (pe_mt C_Standing_held_mode hr (by decide) (pe_dget hu (fldU K (pv 0)) (pv 3) (fun _ _ => rfl)) (pa_cons (pv 1) pa_nil)))
    (pss_one (ps_if (pt_cmpR (neU K hu64) (pv 4) pe_str (nomark _)) (pss_one (ps_expr (pe_bm PySem.F.plainAttrs_list PySem.F.slot_list_append PySem.F.type_list_append mt_append (pv 2) (pa_cons (pe_tup (pa_cons (pv 3) (pa_cons (pv 4) pa_nil))) pa_nil)))) pss_nil))))
    (pss_one (ps_ret (pe_callTy (tupU K) (by rfl) T.z_tuple (by decide +kernel) (pa_cons (pv 2) pa_nil))))))), ?_⟩
  rintro ⟨w, ⟨x, pe, ps, pl, pd⟩, t⟩ L g fr Q ⟨⟨o1, o2, o3, o4⟩, o5⟩ hR
  dsimp only at o1 o2 o3 o4 o5
  show Gk L [some (rA x), some (G.rI t), none, none, none] [g] (oIn x (He.ga K "Weaving") (wvG K w ⟨x, pe, ps, pl, pd⟩) :: oLs pe (w.evs.map rEv) :: oDk ps (standsKV K w.ms w.rows w.ts w.evs) :: oDk pl (lockersKV w.evs) :: oDt pd (edgesKV w.ed) :: fr) _
  walk_at "g0"
  refine k_notInI (c := ct_Webdd_containsdd K) (fr := wvO K w ⟨x, pe, ps, pl, pd⟩ ++ fr) (⟨w.ms, w.rows, w.ts, true, 0, 0, 0⟩, t) rfl rfl o1 (fun _ => decide (0 ≤ t) && decide (t < (w.ts.length : Int))) (fun _ _ => rfl) ?_
  rintro - -
  rw [decide_eq_true o5.1, decide_eq_true o5.2]
  refine k_tb ?_
  refine k_ifF ?_
  show Gk L _ _ (oIn x (He.ga K "Weaving") (wvG K w ⟨x, pe, ps, pl, pd⟩) :: oLs pe (w.evs.map rEv) :: oDk ps (standsKV K w.ms w.rows w.ts w.evs) :: oDk pl (lockersKV w.evs) :: oDt pd (edgesKV w.ed) :: fr) _
  walk_at "g0"
  rename_i p
  refine k_meth rfl ?_
  walk_at "g0"
  refine ga_perm (perm3 (X := [_]) (S := [_, _, _, _, _])) ?_
  refine k_mcall (c := ct_Weavingddascending K) (fr := oLs p [] :: fr) (w, some ⟨x, pe, ps, pl, pd⟩) rfl rfl ⟨o1, o2, o3, o4⟩ ?_
  rintro (ns : List Int) (hns : Asc w.evs ns)
  refine k_perm (os' := oLs p ([].map rNM) :: (wvO K w ⟨x, pe, ps, pl, pd⟩ ++ fr)) (perm3 (X := [_]) (S := [_, _, _, _, _])).symm ?_
  show Gk L _ (rLs (ns.map G.rI) :: _) _ _
  have hnl : ns.length ≤ 50 := by
    have := hns.perm.length_eq
    have := namesOf_len w.evs
    omega
  have hnd : ns.Nodup := hns.perm.nodup_iff.mpr (namesOf_nodup w.evs)
  have hmem : ∀ n, n ∈ ns ↔ n ∈ namesOf w.evs := fun n => hns.perm.mem_iff
  refine k_forL (qs := ns.map G.rI) (T := List (Int × Deed)) (fun i hs => (∀ n d, (n, d) ∈ hs ↔ n ∈ ns.take i ∧ (d = .own ∧ stF w.evs n t = 1 ∨ d = .share ∧ stF w.evs n t = 2)) ∧ hs.length ≤ i) (fun _ => [some (rA x), some (G.rI t), some (rA p), none, none]) (fun hs => oLs p (hs.map rNM) :: (wvO K w ⟨x, pe, ps, pl, pd⟩ ++ fr)) [] ⟨by simp, Nat.le_refl _⟩ (by walk_at "le") rfl ?_ ?_
  · rintro i q gh hs N hq ⟨j1, j2⟩ hN
    obtain ⟨n, hn, rfl⟩ := map_get hq
    have hi := (List.getElem?_eq_some_iff.mp hn).1
    have hnn : n ∈ namesOf w.evs := (hmem n).mp (List.mem_of_getElem? hn)
    have hv : valR (standsKV K w.ms w.rows w.ts w.evs) (Sum.inl n) = some (rStand K w.ms w.rows w.ts (stOf w.evs n)) := by unfold standsKV; rw [kvOf_val, if_pos hnn]
    show Gk L _ _ (oLs p (hs.map rNM) :: oIn x (He.ga K "Weaving") (wvG K w ⟨x, pe, ps, pl, pd⟩) :: oLs pe (w.evs.map rEv) :: oDk ps (standsKV K w.ms w.rows w.ts w.evs) :: oDk pl (lockersKV w.evs) :: oDt pd (edgesKV w.ed) :: fr) _
    walk_at "g0"
    refine k_dget hv ?_
    walk_at "g0"
    refine k_meth rfl ?_
    walk_at "g0"
    refine k_mcall (c := ct_Standing_held_mode K) (fr := oLs p (hs.map rNM) :: (wvO K w ⟨x, pe, ps, pl, pd⟩ ++ fr)) ⟨w.ms, w.rows, w.ts, stOf w.evs n, t⟩ rfl rfl trivial ?_
    rintro - -
    show Gk L _ (rS (heldM (stOf w.evs n) t) :: _) (oLs p (hs.map rNM) :: oIn x (He.ga K "Weaving") (wvG K w ⟨x, pe, ps, pl, pd⟩) :: oLs pe (w.evs.map rEv) :: oDk ps (standsKV K w.ms w.rows w.ts w.evs) :: oDk pl (lockersKV w.evs) :: oDt pd (edgesKV w.ed) :: fr) _
    have hlen : hs.length ≤ 10000 := by omega
    have add : ∀ (d : Deed), d = .own ∧ stF w.evs n t = 1 ∨ d = .share ∧ stF w.evs n t = 2 → (∀ m d', (m, d') ∈ hs ++ [(n, d)] ↔ m ∈ ns.take (i + 1) ∧ (d' = .own ∧ stF w.evs m t = 1 ∨ d' = .share ∧ stF w.evs m t = 2)) := fun d hd m d' => by
      rw [take_snoc hn, List.mem_append, List.mem_append, j1, List.mem_singleton, List.mem_singleton]
      constructor
      · rintro (⟨h1, h2⟩ | h)
        · exact ⟨.inl h1, h2⟩
        · cases h; exact ⟨.inr rfl, hd⟩
      · rintro ⟨h1 | rfl, h2⟩
        · exact .inl ⟨h1, h2⟩
        · refine .inr ?_
          have : d' = d := by
            rcases hd with ⟨rfl, hd⟩ | ⟨rfl, hd⟩ <;> rcases h2 with ⟨rfl, h2⟩ | ⟨rfl, h2⟩
            · rfl
            · omega
            · omega
            · rfl
          rw [this]
    rcases heldM_run o2 (by omega) n t with ⟨h1, h2⟩ | ⟨h1, h2⟩ | ⟨h1, h2, h3⟩
    · rw [h2]
      walk_at "g0"
      rw [decide_eq_false (by decide : ¬ (Str.ofString "own" = Str.ofString ""))]
      refine k_ifT ?_
      walk_at "g0"
      rw [show hs.map rNM ++ [rTp [G.rI n, rS (Str.ofString "own")]] = (hs ++ [(n, Deed.own)]).map rNM from by rw [List.map_append]; rfl]
      refine k_le (by walk_at "le") rfl (hN (hs ++ [(n, Deed.own)]) ?_)
      exact ⟨add .own (.inl ⟨rfl, h1⟩), by rw [List.length_append, List.length_singleton]; omega⟩
    · rw [h2]
      walk_at "g0"
      rw [decide_eq_false (by decide : ¬ (Str.ofString "share" = Str.ofString ""))]
      refine k_ifT ?_
      walk_at "g0"
      rw [show hs.map rNM ++ [rTp [G.rI n, rS (Str.ofString "share")]] = (hs ++ [(n, Deed.share)]).map rNM from by rw [List.map_append]; rfl]
      refine k_le (by walk_at "le") rfl (hN (hs ++ [(n, Deed.share)]) ?_)
      exact ⟨add .share (.inr ⟨rfl, h1⟩), by rw [List.length_append, List.length_singleton]; omega⟩
    · rw [h3]
      walk_at "g0"
      rw [decide_eq_true (by decide : (Str.ofString "" = Str.ofString ""))]
      refine k_ifF ?_
      walk_at "g0"
      refine k_le (by walk_at "le") rfl (hN hs ?_)
      refine ⟨fun m d' => ?_, by omega⟩
      rw [take_snoc hn, List.mem_append, j1, List.mem_singleton]
      constructor
      · rintro ⟨g1, g2⟩; exact ⟨.inl g1, g2⟩
      · rintro ⟨g1 | rfl, g2⟩
        · exact ⟨g1, g2⟩
        · omega
  · rintro hs ⟨j1, j2⟩
    walk_at "g0"
    refine k_forget 0 ?_
    refine k_fin hR hs ⟨fun n d => ?_, ?_⟩ (fun _ h => h)
    · rw [j1, List.take_of_length_le (by rw [List.length_map]; omega), hmem]
    · rw [List.length_map] at j2; omega

end


/-! Weaving.reads -/
def ct_Weaving_reads (K : PySem.W.Frag) : Ct where
  δ := WvD
  ε := Unit
  ok d := d.evs.length ≤ 50
  pre d := [rWv K d]
  own d := []
  post d e := True
  ret d _ := rTp ((readsOf d.evs).map rRd)
  out d _ := []
section
variable {P : Program} {w : World} {K : PySem.W.Frag} {mg : Str → Option Value} {base : Heap}
set_option maxHeartbeats 4000000 in
theorem ok_Weaving_reads (T : Txt K mg)  : Met P w K mg base 1 (He.ga K "Weaving") "reads" (Fn (ct_Weaving_reads K)) [] := by
  haveI : FldI K (He.ga K "Shape") "_listed" := ⟨T.c_Shape, T.n_Shape__listed⟩
  haveI : FldI K (He.ga K "Shape") "_marks" := ⟨T.c_Shape, T.n_Shape__marks⟩
  haveI : FldI K (He.ga K "Web") "shape" := ⟨T.c_Web, T.n_Web_shape⟩
  haveI : FldI K (He.ga K "Web") "_rows" := ⟨T.c_Web, T.n_Web__rows⟩
  haveI : FldI K (He.ga K "Web") "_numbers" := ⟨T.c_Web, T.n_Web__numbers⟩
  haveI : FldI K (He.ga K "Standing") "web" := ⟨T.c_Standing, T.n_Standing_web⟩
  haveI : FldI K (He.ga K "Standing") "_modes" := ⟨T.c_Standing, T.n_Standing__modes⟩
  haveI : FldI K (He.ga K "Standing") "_holds" := ⟨T.c_Standing, T.n_Standing__holds⟩
  haveI : FldI K (He.ga K "Standing") "_loose" := ⟨T.c_Standing, T.n_Standing__loose⟩
  haveI : FldI K (He.ga K "Weaving") "web" := ⟨T.c_Weaving, T.n_Weaving_web⟩
  haveI : FldI K (He.ga K "Weaving") "_events" := ⟨T.c_Weaving, T.n_Weaving__events⟩
  haveI : FldI K (He.ga K "Weaving") "_standings" := ⟨T.c_Weaving, T.n_Weaving__standings⟩
  haveI : FldI K (He.ga K "Weaving") "_lockers" := ⟨T.c_Weaving, T.n_Weaving__lockers⟩
  haveI : FldI K (He.ga K "Weaving") "_edges" := ⟨T.c_Weaving, T.n_Weaving__edges⟩
  haveI := T.v_Shape_MARKS
  haveI := T.v_Shape_PARENTS
  haveI := T.v_Web_MOST
  haveI := T.i_DEEDS
  haveI := T.i_MODES
  refine metD T.c_Weaving T.m_Weaving_reads T.f_Weaving_reads sc_Weaving_reads (fun _ _ _ _ _ _ us hl => match us, hl with | [_], _ => rfl) (fun _ => rfl) (fun cdv A outer s H E hr => ?_)
  have hu := hu_of hr
  have hu64 := hu64_of hr
  have hu65 := hu65_of hr
  refine ⟨_, (pss_cons (ps_set (i := 1) sc_Weaving_reads.nd rfl (by first | exact Or.inl rfl | exact Or.inr rfl) (pe_lst pa_nil))
    (pss_cons (ps_set (i := 2) sc_Weaving_reads.nd rfl (by first | exact Or.inl rfl | exact Or.inr rfl) pe_dnewK)
    (pss_cons (ps_for PassesOwn.never rfl (piL K (fldU K (pv 0))) (pg_unp K (is := [3, 4]) (pg_tup rfl (pgs_cons (pg_name (i := 3) sc_Weaving_reads.nd rfl (by first | exact Or.inl rfl | exact Or.inr rfl)) (pgs_cons (pg_name (i := 4) sc_Weaving_reads.nd rfl (by first | exact Or.inl rfl | exact Or.inr rfl)) pgs_nil))))
    (pss_cons (ps_asg (pv 4) (pg_unp K (is := [5, 6]) (pg_tup rfl (pgs_cons (pg_name (i := 5) sc_Weaving_reads.nd rfl (by first | exact Or.inl rfl | exact Or.inr rfl)) (pgs_cons (pg_name (i := 6) sc_Weaving_reads.nd rfl (by first | exact Or.inl rfl | exact Or.inr rfl)) pgs_nil)))))
    (pss_one (ps_if (pt_cmpR (neU K hu64) (pv 5) pe_str (nomark _)) (pss_cons (ps_expr (pe_bm PySem.F.plainAttrs_list PySem.F.slot_list_append PySem.F.type_list_append mt_append (pv 1) (pa_cons (pe_tup (pa_cons (pv 3) (pa_cons (pv 6) (pa_cons (pe_dget2 hu (pv 2) (pv 6) (pe_un un_neg pe_int) ⟨rfl, rfl, rfl, rfl⟩) pa_nil)))) pa_nil)))
    (pss_one (ps_if (pt_cmpR (eqU K hu64) (pv 5) pe_str (nomark _)) (pss_one (ps_dput hu (pv 2) (pv 6) (pv 3) rfl)) pss_nil))) pss_nil))))
    (pss_one (ps_ret (pe_callTy (tupU K) (by rfl) T.z_tuple (by decide +kernel) (pa_cons (pv 1) pa_nil))))))), ?_⟩
  rintro ⟨ms, rows, ts, evs, ed⟩ L g fr Q o hR
  have o : evs.length ≤ 50 := o
  show Gk L [some (rWv K ⟨ms, rows, ts, evs, ed⟩), none, none, none, none, none, none] [g] fr _
  walk_at "g0"
  rename_i p q
  refine k_forL (qs := evs.map rEv) (T := Nat) (fun i s => s = i) (fun _ => [some (rWv K ⟨ms, rows, ts, evs, ed⟩), some (rA p), some (rA q), none, none, none, none]) (fun i => oDk q (lastKV (evs.take i)) :: oLs p ((readsOf (evs.take i)).map rRd) :: fr) 0 rfl (by walk_at "le") rfl ?_ ?_
  · rintro i r gh j N hq rfl hN
    obtain ⟨⟨n, ⟨dd, t⟩⟩, he, rfl⟩ := map_get hq
    have ht := take_snoc he
    have hl1 : (lastKV (evs.take j)).length ≤ 10000 := by
      unfold lastKV; rw [kvOf_len]
      have := ownedT_len (evs.take j)
      rw [List.length_take] at this
      omega
    have hl2 : (readsOf (evs.take j)).length ≤ 10000 := by
      have := readsOf_len (evs.take j)
      rw [List.length_take] at this
      omega
    show Gk L _ (rTp [G.rI n, rTp [rS dd.s, G.rI t]] :: _) _ _
    walk_at "g0"
    refine k_ifN (fun h => ?_) (fun h => ?_)
    · have hdd : dd ≠ .drop := fun e => h (by rw [e]; rfl)
      have hk : isLk (⟨n, ⟨dd, t⟩⟩ : Ev) = true := isLk_iff.mpr hdd
      walk_at "g0"
      refine k_dget2k ?_
      rw [last_get]
      walk_at "g0"
      rw [show (readsOf (evs.take j)).map rRd ++ [rTp [G.rI n, G.rI t, G.rI (lastO (evs.take j) t)]] = (readsOf (evs.take (j + 1))).map rRd from by
        rw [ht, readsOf_snoc, if_pos hk, List.map_append]; rfl]
      refine k_ifD (fun h => ?_) (fun h => ?_)
      · have ho : dd = .own := Deed.s_inj h
        walk_at "g0"
        rw [show putKR (lastKV (evs.take j)) (Sum.inl t) (G.rI n) = lastKV (evs.take (j + 1)) from by rw [ht]; exact last_own (e := ⟨n, ⟨dd, t⟩⟩) ho]
        refine k_le (by walk_at "le") rfl (hN (j + 1) ?_)
        rfl
      · have ho : dd ≠ .own := fun e => h (by rw [e]; rfl)
        walk_at "g0"
        rw [show lastKV (evs.take j) = lastKV (evs.take (j + 1)) from by rw [ht]; exact (last_other (e := ⟨n, ⟨dd, t⟩⟩) ho).symm]
        refine k_le (by walk_at "le") rfl (hN (j + 1) ?_)
        rfl
    · have hdd : dd = .drop := Deed.s_inj h
      have hk : isLk (⟨n, ⟨dd, t⟩⟩ : Ev) = false := by rw [hdd]; rfl
      walk_at "g0"
      rw [show lastKV (evs.take j) = lastKV (evs.take (j + 1)) from by rw [ht]; exact (last_other (e := ⟨n, ⟨dd, t⟩⟩) (by rw [hdd]; exact fun h => nomatch h)).symm]
      rw [show (readsOf (evs.take j)) = (readsOf (evs.take (j + 1))) from by
        rw [ht, readsOf_snoc, hk]; simp]
      refine k_le (by walk_at "le") rfl (hN (j + 1) ?_)
      rfl
  · rintro j rfl
    rw [List.length_map, List.take_length]
    walk_at "g0"
    refine k_forget 0 ?_
    refine k_forget 0 ?_
    exact k_fin hR () trivial (fun _ h => h)

end


/-! Weaving.names -/
def ct_Weaving_names (K : PySem.W.Frag) : Ct where
  δ := WvD
  ε := Unit
  ok d := True
  pre d := [rWv K d]
  own d := []
  post d e := True
  ret d _ := rTp ((namesOf d.evs).map G.rI)
  out d _ := []
section
variable {P : Program} {w : World} {K : PySem.W.Frag} {mg : Str → Option Value} {base : Heap}
set_option maxHeartbeats 4000000 in
theorem ok_Weaving_names (T : Txt K mg)  : PropC P w K mg base 1 (He.ga K "Weaving") "names" (Fn (ct_Weaving_names K)) := by
  haveI : FldI K (He.ga K "Shape") "_listed" := ⟨T.c_Shape, T.n_Shape__listed⟩
  haveI : FldI K (He.ga K "Shape") "_marks" := ⟨T.c_Shape, T.n_Shape__marks⟩
  haveI : FldI K (He.ga K "Web") "shape" := ⟨T.c_Web, T.n_Web_shape⟩
  haveI : FldI K (He.ga K "Web") "_rows" := ⟨T.c_Web, T.n_Web__rows⟩
  haveI : FldI K (He.ga K "Web") "_numbers" := ⟨T.c_Web, T.n_Web__numbers⟩
  haveI : FldI K (He.ga K "Standing") "web" := ⟨T.c_Standing, T.n_Standing_web⟩
  haveI : FldI K (He.ga K "Standing") "_modes" := ⟨T.c_Standing, T.n_Standing__modes⟩
  haveI : FldI K (He.ga K "Standing") "_holds" := ⟨T.c_Standing, T.n_Standing__holds⟩
  haveI : FldI K (He.ga K "Standing") "_loose" := ⟨T.c_Standing, T.n_Standing__loose⟩
  haveI : FldI K (He.ga K "Weaving") "web" := ⟨T.c_Weaving, T.n_Weaving_web⟩
  haveI : FldI K (He.ga K "Weaving") "_events" := ⟨T.c_Weaving, T.n_Weaving__events⟩
  haveI : FldI K (He.ga K "Weaving") "_standings" := ⟨T.c_Weaving, T.n_Weaving__standings⟩
  haveI : FldI K (He.ga K "Weaving") "_lockers" := ⟨T.c_Weaving, T.n_Weaving__lockers⟩
  haveI : FldI K (He.ga K "Weaving") "_edges" := ⟨T.c_Weaving, T.n_Weaving__edges⟩
  haveI := T.v_Shape_MARKS
  haveI := T.v_Shape_PARENTS
  haveI := T.v_Web_MOST
  haveI := T.i_DEEDS
  haveI := T.i_MODES
  refine propD T.c_Weaving T.p_Weaving_names sc_Weaving_names (fun _ _ _ _ _ _ us hl => match us, hl with | [_], _ => rfl) (fun _ => rfl) (fun ga cdv A outer s H E hr => ?_)
  have hu := hu_of hr
  have hu64 := hu64_of hr
  have hu65 := hu65_of hr
  refine ⟨_, (pss_one (ps_ret (pe_callTy (tupU K) (by rfl) T.z_tuple (by decide +kernel) (pa_cons (pe_callTy (lstDU rfl) (by rfl) T.z_list (by decide +kernel) (pa_cons (fldU K (pv 0)) pa_nil)) pa_nil)))), ?_⟩
  rintro w L g fr Q - hR
  show Gk L [some (rWv K w)] [g] fr _
  walk_at "g0"
  refine k_fin hR () trivial (fun K1 h => ?_)
  have h : Gk L _ [rTp ((namesOf w.evs).map G.rI), g] fr K1 := h
  rw [show (standsKV K w.ms w.rows w.ts w.evs).map (fun p => rKey p.1) = (namesOf w.evs).map G.rI from by unfold standsKV kvOf; rw [List.map_map]; rfl]
  exact h

end


/-! Weaving.edges -/
def ct_Weaving_edges (K : PySem.W.Frag) : Ct where
  δ := WvD
  ε := List Int
  ok d := WvOk d
  pre d := [rWv K d]
  own d := []
  post d e := Asc d.evs e
  ret d _ := rN
  out d _ := []
def qs_Weaving_edges (d : WvD) (ns : List Int) : List R := ((pairsOf ns ns).filter fun p => decide (p ∈ d.ed)).map rPr
section
variable {P : Program} {w : World} {K : PySem.W.Frag} {mg : Str → Option Value} {base : Heap}
set_option maxHeartbeats 4000000 in
theorem ok_Weaving_edges (T : Txt K mg) (C_Weavingddascending : Met P w K mg base 1 (He.ga K "Weaving") "_ascending" (Fn (ct_Weavingddascending K)) []) : MetG P w K mg base 2 (He.ga K "Weaving") "edges" (FnG (ct_Weaving_edges K) qs_Weaving_edges) := by
  haveI : FldI K (He.ga K "Shape") "_listed" := ⟨T.c_Shape, T.n_Shape__listed⟩
  haveI : FldI K (He.ga K "Shape") "_marks" := ⟨T.c_Shape, T.n_Shape__marks⟩
  haveI : FldI K (He.ga K "Web") "shape" := ⟨T.c_Web, T.n_Web_shape⟩
  haveI : FldI K (He.ga K "Web") "_rows" := ⟨T.c_Web, T.n_Web__rows⟩
  haveI : FldI K (He.ga K "Web") "_numbers" := ⟨T.c_Web, T.n_Web__numbers⟩
  haveI : FldI K (He.ga K "Standing") "web" := ⟨T.c_Standing, T.n_Standing_web⟩
  haveI : FldI K (He.ga K "Standing") "_modes" := ⟨T.c_Standing, T.n_Standing__modes⟩
  haveI : FldI K (He.ga K "Standing") "_holds" := ⟨T.c_Standing, T.n_Standing__holds⟩
  haveI : FldI K (He.ga K "Standing") "_loose" := ⟨T.c_Standing, T.n_Standing__loose⟩
  haveI : FldI K (He.ga K "Weaving") "web" := ⟨T.c_Weaving, T.n_Weaving_web⟩
  haveI : FldI K (He.ga K "Weaving") "_events" := ⟨T.c_Weaving, T.n_Weaving__events⟩
  haveI : FldI K (He.ga K "Weaving") "_standings" := ⟨T.c_Weaving, T.n_Weaving__standings⟩
  haveI : FldI K (He.ga K "Weaving") "_lockers" := ⟨T.c_Weaving, T.n_Weaving__lockers⟩
  haveI : FldI K (He.ga K "Weaving") "_edges" := ⟨T.c_Weaving, T.n_Weaving__edges⟩
  haveI := T.v_Shape_MARKS
  haveI := T.v_Shape_PARENTS
  haveI := T.v_Web_MOST
  haveI := T.i_DEEDS
  haveI := T.i_MODES
  refine genD T.c_Weaving T.m_Weaving_edges T.f_Weaving_edges sc_Weaving_edges (fun _ _ _ _ _ _ us hl => match us, hl with | [_], _ => rfl) (fun _ => rfl) (fun cdv A outer s H E pn hr => ?_)
  have hu := hu_of hr
  have hu64 := hu64_of hr
  have hu65 := hu65_of hr
  refine ⟨_, (gss_cons (gs_ps (ps_set (i := 1) sc_Weaving_edges.nd rfl (by first | exact Or.inl rfl | exact Or.inr rfl) (pe_mt0 C_Weavingddascending hr (by decide) (pv 0)))) (gss_cons (gs_for owns_gcx rfl (piL K (pv 1)) (pg_name (i := 2) sc_Weaving_edges.nd rfl (by first | exact Or.inl rfl | exact Or.inr rfl))
    (gss_cons (gs_for owns_gcx rfl (piL K (pv 1)) (pg_name (i := 3) sc_Weaving_edges.nd rfl (by first | exact Or.inl rfl | exact Or.inr rfl))
    (gss_cons (gs_if (pt_cmpR (op_dIn hu) (pe_tup (pa_cons (pv 2) (pa_cons (pv 3) pa_nil))) (fldU K (pv 0)) rfl) (gss_cons (gs_yield (pe_tup (pa_cons (pv 2) (pa_cons (pv 3) pa_nil)))) gss_nil) gss_nil) gss_nil)) gss_nil)) gss_nil)), ?_⟩
  rintro ⟨ms, rows, ts, evs, ed⟩ L g fr Q o hR
  show Gk L [some (rWv K ⟨ms, rows, ts, evs, ed⟩), none, none, none] [rGh [] [], g] fr _
  walk_at "g0"
  refine k_meth rfl ?_
  walk_at "g0"
  refine k_mcall (c := ct_Weavingddascending K) (fr := fr) (⟨ms, rows, ts, evs, ed⟩, none) rfl rfl o ?_
  rintro (ns : List Int) (hns : Asc evs ns)
  show Gk L _ (rLs (ns.map G.rI) :: _) fr _
  walk_at "g0"
  have hnl : ns.length ≤ 50 := by
    have h := o.len
    have : evs.length ≤ 50 := h
    have := hns.len
    omega
  refine g_forL (ps := ns.map G.rI) (T := Nat) (fun i s => s = i) (fun _ => [some (rWv K ⟨ms, rows, ts, evs, ed⟩), some (rLs (ns.map G.rI)), none, none]) (fun _ => fr) (fun i => ((pairsOf (ns.take i) ns).filter fun p => decide (p ∈ ed)).map rPr) 0 rfl (by walk_at "le") rfl rfl ?_ ?_
  · rintro i q gh j ys N hq rfl hN
    obtain ⟨a, ha, rfl⟩ := map_get hq
    walk_at "g0"
    refine g_forL (ps := ns.map G.rI) (T := Nat) (fun i s => s = i) (fun _ => [some (rWv K ⟨ms, rows, ts, evs, ed⟩), some (rLs (ns.map G.rI)), some (G.rI a), none]) (fun _ => fr) (fun i => ((pairsOf (ns.take j) ns ++ (ns.take i).map fun b => (a, b)).filter fun p => decide (p ∈ ed)).map rPr) 0 rfl (by walk_at "le") rfl (by rw [List.take_zero, List.map_nil, List.append_nil]) ?_ ?_
    · rintro i q gh2 m ys N2 hq2 rfl hN2
      obtain ⟨b, hb, rfl⟩ := map_get hq2
      have et : (ns.take (m + 1)).map (fun b => (a, b)) = (ns.take m).map (fun b => (a, b)) ++ [(a, b)] := by rw [take_snoc hb, List.map_append]; rfl
      walk_at "g0"
      rw [edges_some]
      refine g_if2 (fun h => ?_) (fun h => ?_)
      · refine g_len fun hl => ?_
        have hl2 : ys.length ≤ 2600 := by
          rw [hl, List.length_map]
          refine Nat.le_trans (List.length_filter_le _ _) ?_
          rw [List.length_append, pairsOf_len, List.length_map, List.length_take, List.length_take]
          have : min j ns.length * ns.length ≤ 50 * 50 := Nat.mul_le_mul (by omega) (by omega)
          omega
        walk_at "g0"
        refine g_yield (by omega) ?_
        walk_at "g0"
        refine g_yldk fun x => ?_
        walk_at "g0"
        have q := hN2 (m + 1) (ys ++ [x]) rfl
        rw [et, ← List.append_assoc, List.filter_append, List.map_append, List.filter_cons_of_pos (by simpa using h)] at q
        exact k_le (by walk_at "le") rfl q
      · walk_at "g0"
        have q := hN2 (m + 1) ys rfl
        rw [et, ← List.append_assoc, List.filter_append, List.map_append, List.filter_cons_of_neg (by simpa using h), List.filter_nil, List.map_nil, List.append_nil] at q
        exact k_le (by walk_at "le") rfl q
    · rintro m ys rfl
      rw [List.length_map, List.take_length]
      walk_at "g0"
      have q := hN (j + 1) ys rfl
      rw [take_snoc ha, pairsOf_snoc] at q
      exact k_le (by walk_at "le") rfl q
  · rintro j ys rfl
    rw [List.length_map, List.take_length]
    walk_at "g0"
    exact Imp.gk (fun σ vs H s => s) (g_fin (ys := ys) hR ns hns)

end


/-! followers -/
structure FolD where
  w : WvD
  b : Bool
  ns : List Int
def ct_followers (K : PySem.W.Frag) : Ct where
  δ := FolD
  ε := List Int
  ok d := WvOk d.w
  pre d := [rWv K d.w, rNs d.b d.ns]
  own d := []
  post d e := FolOk d.w.evs d.ns e
  ret d e := rTp (e.map G.rI)
  out d e := []
section
variable {P : Program} {w : World} {K : PySem.W.Frag} {mg : Str → Option Value} {base : Heap}
set_option maxHeartbeats 4000000 in
theorem ok_followers (T : Txt K mg) (C_Weaving_names : PropC P w K mg base 1 (He.ga K "Weaving") "names" (Fn (ct_Weaving_names K))) (C_Weaving_reads : Met P w K mg base 1 (He.ga K "Weaving") "reads" (Fn (ct_Weaving_reads K)) []) : Cal P w K mg base 3 "followers" (Fn (ct_followers K)) [] := by
  haveI : FldI K (He.ga K "Shape") "_listed" := ⟨T.c_Shape, T.n_Shape__listed⟩
  haveI : FldI K (He.ga K "Shape") "_marks" := ⟨T.c_Shape, T.n_Shape__marks⟩
  haveI : FldI K (He.ga K "Web") "shape" := ⟨T.c_Web, T.n_Web_shape⟩
  haveI : FldI K (He.ga K "Web") "_rows" := ⟨T.c_Web, T.n_Web__rows⟩
  haveI : FldI K (He.ga K "Web") "_numbers" := ⟨T.c_Web, T.n_Web__numbers⟩
  haveI : FldI K (He.ga K "Standing") "web" := ⟨T.c_Standing, T.n_Standing_web⟩
  haveI : FldI K (He.ga K "Standing") "_modes" := ⟨T.c_Standing, T.n_Standing__modes⟩
  haveI : FldI K (He.ga K "Standing") "_holds" := ⟨T.c_Standing, T.n_Standing__holds⟩
  haveI : FldI K (He.ga K "Standing") "_loose" := ⟨T.c_Standing, T.n_Standing__loose⟩
  haveI : FldI K (He.ga K "Weaving") "web" := ⟨T.c_Weaving, T.n_Weaving_web⟩
  haveI : FldI K (He.ga K "Weaving") "_events" := ⟨T.c_Weaving, T.n_Weaving__events⟩
  haveI : FldI K (He.ga K "Weaving") "_standings" := ⟨T.c_Weaving, T.n_Weaving__standings⟩
  haveI : FldI K (He.ga K "Weaving") "_lockers" := ⟨T.c_Weaving, T.n_Weaving__lockers⟩
  haveI : FldI K (He.ga K "Weaving") "_edges" := ⟨T.c_Weaving, T.n_Weaving__edges⟩
  haveI := T.v_Shape_MARKS
  haveI := T.v_Shape_PARENTS
  haveI := T.v_Web_MOST
  haveI := T.i_DEEDS
  haveI := T.i_MODES
  refine calD T.f_followers T.g_followers sc_followers (fun _ _ _ _ _ _ us hl => match us, hl with | [_, _], _ => rfl) (fun _ => rfl) (fun cdv A outer s H E hr => ?_)
  have hu := hu_of hr
  have hu64 := hu64_of hr
  have hu65 := hu65_of hr
  refine ⟨_, (pss_cons (ps_setLc (i := 2) (own := [("name", 5)]) rfl sc_followers.nd rfl rfl (sw_true rfl rfl rfl (by decide +kernel)) (piT K (pe_propC C_Weaving_names hr (by decide) (pv 0))) (blkOk_by (own := [("name", 5)]) (N := N_followers) (sc := (defScope s_followers)) (by decide +kernel)) (fun _ _ _ _ _ => (pg_name (i := 5) sc_followers.nd rfl (by first | exact Or.inl rfl | exact Or.inr rfl))) (fun _ _ _ _ _ => pts_one (pt_cmpR (inU K hu65) (pv 5) (pv 1) rfl)) (fun _ _ _ _ _ => (pv 5)))
    (pss_cons (ps_set (i := 3) sc_followers.nd rfl (by first | exact Or.inl rfl | exact Or.inr rfl) (pe_mt0 C_Weaving_reads hr (by decide) (pv 0)))
    (pss_cons (ps_set (i := 4) sc_followers.nd rfl (by first | exact Or.inl rfl | exact Or.inr rfl) pe_bl)
    (pss_cons (ps_while PassesOwn.never (pt_val (pv 4))
    (pss_cons (ps_set (i := 4) sc_followers.nd rfl (by first | exact Or.inl rfl | exact Or.inr rfl) pe_bl)
    (pss_one (ps_for PassesOwn.never rfl (piT K (pv 3)) (pg_unp K (is := [5, 6, 7]) (pg_tup rfl (pgs_cons (pg_name (i := 5) sc_followers.nd rfl (by first | exact Or.inl rfl | exact Or.inr rfl)) (pgs_cons (pg_name (i := 6) sc_followers.nd rfl (by first | exact Or.inl rfl | exact Or.inr rfl)) (pgs_cons (pg_name (i := 7) sc_followers.nd rfl (by first | exact Or.inl rfl | exact Or.inr rfl)) pgs_nil)))))
    (pss_one (ps_if (PW.pt (pw_and (pt_cmpR (inU K hu65) (pv 7) (pv 2) rfl) (pw_and1 (pt_cmpR (notInU K hu65) (pv 5) (pv 2) rfl)))) (pss_cons (ps_expr (pe_bm PySem.F.plainAttrs_list PySem.F.slot_list_append PySem.F.type_list_append mt_append (pv 2) (pa_cons (pv 5) pa_nil)))
    (pss_one (ps_set (i := 4) sc_followers.nd rfl (by first | exact Or.inl rfl | exact Or.inr rfl) pe_bl))) pss_nil))))))
    (pss_one (ps_ret (pe_callTy (tupU K) (by rfl) T.z_tuple (by decide +kernel) (pa_cons (pe_callB (sortedU K) (by rfl) T.z_sorted (by decide +kernel) (pa_cons (pe_lc (own := [("name", 5)]) rfl sc_followers.nd (piL K (pv 2)) (blkOk_by (own := [("name", 5)]) (N := N_followers) (sc := (defScope s_followers)) (by decide +kernel)) (fun _ _ _ _ _ => (pg_name (i := 5) sc_followers.nd rfl (by first | exact Or.inl rfl | exact Or.inr rfl))) (fun _ _ _ _ _ => pts_nil) (fun _ _ _ _ _ => (pe_callTy c_int (by rfl) T.z_int (by decide +kernel) (pa_cons (pv 5) pa_nil)))) pa_nil)) pa_nil)))))))), ?_⟩
  rintro ⟨⟨ms, rows, ts, evs, ed⟩, b, ns⟩ L g fr Q o hR
  have o : WvOk ⟨ms, rows, ts, evs, ed⟩ := o
  show Gk L [some (rWv K ⟨ms, rows, ts, evs, ed⟩), some (rNs b ns), none, none, none, none, none, none] [g] fr _
  walk_at "g0"
  refine k_prop (c := ct_Weaving_names K) (fr := fr) ⟨ms, rows, ts, evs, ed⟩ rfl rfl trivial ?_
  rintro - -
  have hnl := namesOf_len evs
  have hel : evs.length ≤ 50 := o.len
  show Gk L _ (rTp ((namesOf evs).map G.rI) :: _) fr _
  refine k_lcT (w := ⟨rfl⟩) (xs := namesOf evs) (t := G.rI) (fun n => decide (n ∈ ns)) (fun n => G.rI n) _  (by omega) (fun y => gok_nm rfl (by decide)) (fun y hy gx D acc K2 h => ?_) (fun y hy hp gx D acc K1 h => ?_) (fun D => ?_)
  · walk_at "cm"
    walk_at "g0"
    refine k_inNs ?_
    walk_at "g0"
    exact h
  · walk_at "cm"
    walk_at "g0"
    exact h
  walk_at "g0"
  refine k_meth rfl ?_
  walk_at "g0"
  refine k_mcall (c := ct_Weaving_reads K) (fr := oLs D (((namesOf evs).filter fun n => decide (n ∈ ns)).map G.rI) :: fr) ⟨ms, rows, ts, evs, ed⟩ rfl rfl hel ?_
  rintro - -
  show Gk L _ (rTp ((readsOf evs).map rRd) :: _) (oLs D (((namesOf evs).filter fun n => decide (n ∈ ns)).map G.rI) :: fr) _
  walk_at "g0"
  refine k_while (T := List Int × Bool) (fun s => FolAt evs ns s.1 ∧ (s.2 = false → Closed (readsOf evs) s.1)) (fun s => 2 * ((namesOf evs).length - s.1.length) + (if s.2 = true then 1 else 0)) (fun s => [some (rWv K ⟨ms, rows, ts, evs, ed⟩), some (rNs b ns), some (rA D), some (rTp ((readsOf evs).map rRd)), some (rB s.2), none, none, none]) (fun s => oLs D (s.1.map G.rI) :: fr) ((namesOf evs).filter fun n => decide (n ∈ ns), true) ⟨FolAt.start evs ns, fun h => nomatch h⟩ (by walk_at "le") rfl ?_
  rintro ⟨fs, gr⟩ N K2 ⟨(j1 : FolAt evs ns fs), (j2 : gr = false → Closed (readsOf evs) fs)⟩ hN hK
  dsimp only at hN ⊢
  have hfl := j1.len
  walk_at "g0"
  refine hK gr _ _ _ (fun hg => ?_) (fun hg => ?_)
  · subst hg
    walk_at "g0"
    refine k_forTu (qs := (readsOf evs).map rRd) (T := List Int × Bool) (fun i s => FolAt evs ns s.1 ∧ (s.2 = false → s.1 = fs ∧ Closed ((readsOf evs).take i) fs) ∧ (s.2 = true → fs.length < s.1.length)) (fun s => [some (rWv K ⟨ms, rows, ts, evs, ed⟩), some (rNs b ns), some (rA D), some (rTp ((readsOf evs).map rRd)), some (rB s.2), none, none, none]) (fun s => oLs D (s.1.map G.rI) :: fr) (fs, false) ⟨j1, fun _ => ⟨rfl, fun r hr => by simp at hr⟩, fun h => nomatch h⟩ (by walk_at "le") rfl ?_ ?_
    · rintro i q gh ⟨f2, g2⟩ N2 hq ⟨(q1 : FolAt evs ns f2), (q2 : g2 = false → f2 = fs ∧ Closed ((readsOf evs).take i) fs), (q3 : g2 = true → fs.length < f2.length)⟩ hN2
      dsimp only at hN2 ⊢
      obtain ⟨r, hr, rfl⟩ := map_get hq
      have hrm := List.mem_of_getElem? hr
      have htk := take_snoc hr
      have hl2 := q1.len
      walk_at "g0"
      by_cases h1 : r.src ∈ f2
      · rw [decide_eq_true h1]
        refine k_andT ?_
        walk_at "g0"
        by_cases h2 : r.name ∈ f2
        · rw [decide_eq_true h2]
          refine k_ifF ?_
          walk_at "g0"
          refine k_le (by walk_at "le") rfl (hN2 (f2, g2) ?_)
          refine ⟨q1, fun hg => ⟨(q2 hg).1, fun x hx hs => ?_⟩, q3⟩
          rw [htk] at hx
          rcases List.mem_append.mp hx with z | z
          · exact (q2 hg).2 x z hs
          · rw [List.mem_singleton.mp z, ← (q2 hg).1]; exact h2
        · rw [decide_eq_false h2]
          refine k_ifT ?_
          walk_at "g0"
          refine k_le (by walk_at "le") rfl (hN2 (f2 ++ [r.name], true) ?_)
          refine ⟨q1.add hrm h1 h2, (fun h => nomatch h), fun _ => ?_⟩
          show fs.length < (f2 ++ [r.name]).length
          rw [List.length_append, List.length_singleton]
          cases g2 with
          | true => have := q3 rfl; omega
          | false => rw [(q2 rfl).1]; omega
      · rw [decide_eq_false h1]
        walk_at "g0"
        refine k_le (by walk_at "le") rfl (hN2 (f2, g2) ?_)
        refine ⟨q1, fun hg => ⟨(q2 hg).1, fun x hx hs => ?_⟩, q3⟩
        rw [htk] at hx
        rcases List.mem_append.mp hx with z | z
        · exact (q2 hg).2 x z hs
        · rw [List.mem_singleton.mp z, ← (q2 hg).1] at hs; exact absurd hs h1
    · rintro ⟨f2, g2⟩ ⟨(q1 : FolAt evs ns f2), (q2 : g2 = false → f2 = fs ∧ Closed ((readsOf evs).take ((readsOf evs).map rRd).length) fs), (q3 : g2 = true → fs.length < f2.length)⟩
      dsimp only
      rw [List.length_map, List.take_length] at q2
      have hl2 := q1.len
      refine k_le (by walk_at "le") rfl (hN (f2, g2) ?_)
      refine ⟨⟨q1, fun hg => by rw [(q2 hg).1]; exact (q2 hg).2⟩, ?_⟩
      show 2 * ((namesOf evs).length - f2.length) + (if g2 = true then 1 else 0) < 2 * ((namesOf evs).length - fs.length) + (if true = true then 1 else 0)
      rw [if_pos rfl]
      cases g2 with
      | true => have := q3 rfl; rw [if_pos rfl]; omega
      | false => rw [(q2 rfl).1, if_neg Bool.false_ne_true]; omega
  · have hc := j2 hg
    walk_at "g0"
    refine k_lcO (w := ⟨rfl⟩) (xs := fs) (t := G.rI) (fun _ => true) (fun n => G.rI n) _  (by omega) (fun y => gok_nm rfl (by decide)) (fun y hy gx D acc K2 h => ?_) (fun y hy hp gx D acc K1 h => ?_) (fun D => ?_)
    · walk_at "cm"
      walk_at "g0"
      exact h
    · walk_at "cm"
      walk_at "g0"
      exact h
    rename_i D2
    rw [show (fs.filter fun _ => true) = fs from List.filter_eq_self.mpr fun _ _ => rfl]
    walk_at "g0"
    refine k_sorted (by omega) fun ns' h1 h2 => ?_
    walk_at "g0"
    refine k_forget 0 ?_
    refine k_forget 0 ?_
    exact k_fin hR ns' (j1.fin hc h1 h2) (fun _ h => h)

end


/-! _law_shape -/
structure LshD where
  ms : List Str
  rows : List Row
structure LshOk (d : LshD) : Prop where
  rows : RowsOk d.ms d.rows
  two : d.rows.length = 2
def ct__law_shape (K : PySem.W.Frag) : Ct where
  δ := LshD
  ε := Unit
  ok := LshOk
  pre d := [rLs (d.rows.map rRow)]
  own d := []
  post d e := True
  ret d e := rShape K d.ms d.rows
  out d e := []
section
variable {P : Program} {w : World} {K : PySem.W.Frag} {mg : Str → Option Value} {base : Heap}
set_option maxHeartbeats 4000000 in
theorem ok__law_shape (T : Txt K mg) (C_Shapedd_initdd : MakS P w K mg base 3 "Shape" (He.ga K "Shape") (Fn (starCt (ct_Shapedd_initdd K) fro_Shapedd_initdd rest_Shapedd_initdd))) : Cal P w K mg base 5 "_law_shape" (Fn (ct__law_shape K)) [] := by
  haveI : FldI K (He.ga K "Shape") "_listed" := ⟨T.c_Shape, T.n_Shape__listed⟩
  haveI : FldI K (He.ga K "Shape") "_marks" := ⟨T.c_Shape, T.n_Shape__marks⟩
  haveI : FldI K (He.ga K "Web") "shape" := ⟨T.c_Web, T.n_Web_shape⟩
  haveI : FldI K (He.ga K "Web") "_rows" := ⟨T.c_Web, T.n_Web__rows⟩
  haveI : FldI K (He.ga K "Web") "_numbers" := ⟨T.c_Web, T.n_Web__numbers⟩
  haveI : FldI K (He.ga K "Standing") "web" := ⟨T.c_Standing, T.n_Standing_web⟩
  haveI : FldI K (He.ga K "Standing") "_modes" := ⟨T.c_Standing, T.n_Standing__modes⟩
  haveI : FldI K (He.ga K "Standing") "_holds" := ⟨T.c_Standing, T.n_Standing__holds⟩
  haveI : FldI K (He.ga K "Standing") "_loose" := ⟨T.c_Standing, T.n_Standing__loose⟩
  haveI : FldI K (He.ga K "Weaving") "web" := ⟨T.c_Weaving, T.n_Weaving_web⟩
  haveI : FldI K (He.ga K "Weaving") "_events" := ⟨T.c_Weaving, T.n_Weaving__events⟩
  haveI : FldI K (He.ga K "Weaving") "_standings" := ⟨T.c_Weaving, T.n_Weaving__standings⟩
  haveI : FldI K (He.ga K "Weaving") "_lockers" := ⟨T.c_Weaving, T.n_Weaving__lockers⟩
  haveI : FldI K (He.ga K "Weaving") "_edges" := ⟨T.c_Weaving, T.n_Weaving__edges⟩
  haveI := T.v_Shape_MARKS
  haveI := T.v_Shape_PARENTS
  haveI := T.v_Web_MOST
  haveI := T.i_DEEDS
  haveI := T.i_MODES
  refine calD T.f__law_shape T.g__law_shape sc__law_shape (fun _ _ _ _ _ _ us hl => match us, hl with | [_], _ => rfl) (fun _ => rfl) (fun cdv A outer s H E hr => ?_)
  have hu := hu_of hr
  have hu64 := hu64_of hr
  have hu65 := hu65_of hr
  refine ⟨_, (pss_cons (ps_setLc (i := 1) (own := [("_law_row", 2)]) rfl sc__law_shape.nd rfl rfl (sw_true rfl rfl rfl (by decide +kernel)) (piL K (pv 0)) (blkOk_by (own := [("_law_row", 2)]) (N := N__law_shape) (sc := (defScope s__law_shape)) (by decide +kernel)) (fun _ _ _ _ _ => (pg_name (i := 2) sc__law_shape.nd rfl (by first | exact Or.inl rfl | exact Or.inr rfl))) (fun _ _ _ _ _ => pts_nil) (fun _ _ _ _ _ => (pe_tup (pa_cons (pe_ix (ixU K) (pv 2) pe_int (fun _ _ => rfl)) (pa_cons (pe_callTy (tupU K) (by rfl) T.z_tuple (by decide +kernel) (pa_cons (pe_ix (ixU K) (pv 2) pe_int (fun _ _ => rfl)) pa_nil)) (pa_cons (pe_ix (ixU K) (pv 2) pe_int (fun _ _ => rfl)) (pa_cons (pe_ix (ixU K) (pv 2) pe_int (fun _ _ => rfl)) (pa_cons (pe_ix (ixU K) (pv 2) pe_int (fun _ _ => rfl)) pa_nil))))))))
    (pss_one (ps_ret (pe_mkS C_Shapedd_initdd hr (by decide) (by rfl) (pa_cons (pe_ix (ixU K) (pv 1) pe_int (fun _ _ => rfl)) (pa_cons (pe_ix (ixU K) (pv 1) pe_int (fun _ _ => rfl)) pa_nil)))))), ?_⟩
  rintro ⟨ms, rows⟩ L g fr Q ⟨o1, o2⟩ hR
  dsimp only at o1 o2
  show Gk L [some (rLs (rows.map rRow)), none, none] [g] fr _
  walk_at "g0"
  refine k_lcL (w := ⟨rfl⟩) (xs := rows) (t := rRow) (fun _ => true) rRowT _  (by omega) (fun y => gok_nm rfl (by decide)) (fun y hy gx D acc K2 h => ?_) (fun y hy hp gx D acc K1 h => ?_) (fun D => ?_)
  · walk_at "cm"
    walk_at "g0"
    exact h
  · walk_at "cm"
    walk_at "g0"
    exact h
  rw [show (rows.filter fun _ => true) = rows from List.filter_eq_self.mpr fun _ _ => rfl]
  walk_at "g0"
  obtain ⟨a, b, rfl⟩ : ∃ a b, rows = [a, b] := by
    match rows, o2 with
    | [a, b], _ => exact ⟨a, b, rfl⟩
  refine k_make (c := starCt (ct_Shapedd_initdd K) fro_Shapedd_initdd rest_Shapedd_initdd) (fr := oLs D ([a, b].map rRowT) :: fr) (fun x => ⟨x, ms, [a, b]⟩) (fun _ => rfl) (fun _ => rfl) (fun _ => ⟨o1, by show 2 ≤ 6; omega⟩) (fun _ _ => rfl) ?_
  rintro x - -
  show Gk L _ (rA x :: _) (oIn x (He.ga K "Shape") (shapeF ms [a, b]) :: oLs D ([a, b].map rRowT) :: fr) _
  refine k_frzI (a := x) ?_
  refine k_is ?_
  refine k_forget 0 ?_
  refine k_forget 0 ?_
  exact k_fin hR () trivial (fun _ h => h)

end


/-! Web.__getitem__ -/
def ct_Webdd_getitemdd (K : PySem.W.Frag) : Ct where
  δ := WebD × Int
  ε := Unit
  ok d := WebOk d.1 ∧ 0 ≤ d.2 ∧ d.2 < d.1.ts.length
  pre d := [webR K d.1, G.rI d.2]
  own d := webO K d.1
  post _ _ := True
  ret d _ := rWRow (d.1.ts.getD d.2.toNat default)
  out d _ := webO K d.1
section
variable {P : Program} {w : World} {K : PySem.W.Frag} {mg : Str → Option Value} {base : Heap}
set_option maxHeartbeats 4000000 in
theorem ok_Webdd_getitemdd (T : Txt K mg) (C_Webdd_containsdd : Met P w K mg base 1 (He.ga K "Web") "__contains__" (Fn (ct_Webdd_containsdd K)) []) : Met P w K mg base 2 (He.ga K "Web") "__getitem__" (Fn (ct_Webdd_getitemdd K)) [] := by
  haveI : FldI K (He.ga K "Shape") "_listed" := ⟨T.c_Shape, T.n_Shape__listed⟩
  haveI : FldI K (He.ga K "Shape") "_marks" := ⟨T.c_Shape, T.n_Shape__marks⟩
  haveI : FldI K (He.ga K "Web") "shape" := ⟨T.c_Web, T.n_Web_shape⟩
  haveI : FldI K (He.ga K "Web") "_rows" := ⟨T.c_Web, T.n_Web__rows⟩
  haveI : FldI K (He.ga K "Web") "_numbers" := ⟨T.c_Web, T.n_Web__numbers⟩
  haveI : FldI K (He.ga K "Standing") "web" := ⟨T.c_Standing, T.n_Standing_web⟩
  haveI : FldI K (He.ga K "Standing") "_modes" := ⟨T.c_Standing, T.n_Standing__modes⟩
  haveI : FldI K (He.ga K "Standing") "_holds" := ⟨T.c_Standing, T.n_Standing__holds⟩
  haveI : FldI K (He.ga K "Standing") "_loose" := ⟨T.c_Standing, T.n_Standing__loose⟩
  haveI : FldI K (He.ga K "Weaving") "web" := ⟨T.c_Weaving, T.n_Weaving_web⟩
  haveI : FldI K (He.ga K "Weaving") "_events" := ⟨T.c_Weaving, T.n_Weaving__events⟩
  haveI : FldI K (He.ga K "Weaving") "_standings" := ⟨T.c_Weaving, T.n_Weaving__standings⟩
  haveI : FldI K (He.ga K "Weaving") "_lockers" := ⟨T.c_Weaving, T.n_Weaving__lockers⟩
  haveI : FldI K (He.ga K "Weaving") "_edges" := ⟨T.c_Weaving, T.n_Weaving__edges⟩
  haveI := T.v_Shape_MARKS
  haveI := T.v_Shape_PARENTS
  haveI := T.v_Web_MOST
  haveI := T.i_DEEDS
  haveI := T.i_MODES
  refine metD T.c_Web T.m_Webdd_getitemdd T.f_Webdd_getitemdd sc_Webdd_getitemdd (fun _ _ _ _ _ _ us hl => match us, hl with | [_, _], _ => rfl) (fun _ => rfl) (fun cdv A outer s H E hr => ?_)
  have hu := hu_of hr
  have hu64 := hu64_of hr
  have hu65 := hu65_of hr
  refine ⟨_, (pss_cons (ps_if (pt_cmpR (op_notInI C_Webdd_containsdd hr (by decide)) (pv 1) (pv 0) rfl) pss_never pss_nil)
    (pss_one (ps_ret (pe_ix (ixU K) (fldU K (pv 0)) (pv 1) (fun _ _ => rfl))))), ?_⟩
  rintro ⟨⟨ms, rows, ts, fz, x, pr, pn⟩, t⟩ L g fr Q ⟨o, h1, h2⟩ hR
  dsimp only at h1 h2
  have hb : (decide (0 ≤ t) && decide (t < (ts.length : Int))) = true := by rw [decide_eq_true h1, decide_eq_true h2]; rfl
  cases fz with
  | true =>
    show Gk L [some (rWeb K ms rows ts), some (G.rI t)] [g] fr _
    walk_at "g0"
    refine k_notInI (c := ct_Webdd_containsdd K) (fr := fr) (⟨ms, rows, ts, true, x, pr, pn⟩, t) rfl rfl o (fun _ => decide (0 ≤ t) && decide (t < (ts.length : Int))) (fun _ _ => rfl) ?_
    rintro - -
    rw [hb]
    refine k_tb ?_
    refine k_ifF ?_
    show Gk L _ _ fr _
    walk_at "g0"
    exact k_fin hR () trivial (fun _ h => h)
  | false =>
    show Gk L [some (rA x), some (G.rI t)] [g] (oIn x (He.ga K "Web") (webG K ms rows pr pn) :: oLs pr (ts.map rWRow) :: oLs pn ((nums ts.length).map G.rI) :: fr) _
    walk_at "g0"
    refine k_notInI (c := ct_Webdd_containsdd K) (fr := fr) (⟨ms, rows, ts, false, x, pr, pn⟩, t) rfl rfl o (fun _ => decide (0 ≤ t) && decide (t < (ts.length : Int))) (fun _ _ => rfl) ?_
    rintro - -
    rw [hb]
    refine k_tb ?_
    refine k_ifF ?_
    show Gk L _ _ (oIn x (He.ga K "Web") (webG K ms rows pr pn) :: oLs pr (ts.map rWRow) :: oLs pn ((nums ts.length).map G.rI) :: fr) _
    walk_at "g0"
    exact k_fin hR () trivial (fun _ h => h)

end


/-! Web.mark_of -/
def ct_Web_mark_of (K : PySem.W.Frag) : Ct where
  δ := WebD × Int
  ε := Unit
  ok d := WebOk d.1 ∧ 0 ≤ d.2 ∧ d.2 < d.1.ts.length
  pre d := [webR K d.1, G.rI d.2]
  own d := webO K d.1
  post _ _ := True
  ret d _ := rS (d.1.ts.getD d.2.toNat default).mark
  out d _ := webO K d.1
section
variable {P : Program} {w : World} {K : PySem.W.Frag} {mg : Str → Option Value} {base : Heap}
set_option maxHeartbeats 4000000 in
theorem ok_Web_mark_of (T : Txt K mg) (C_Webdd_getitemdd : Met P w K mg base 2 (He.ga K "Web") "__getitem__" (Fn (ct_Webdd_getitemdd K)) []) : Met P w K mg base 4 (He.ga K "Web") "mark_of" (Fn (ct_Web_mark_of K)) [] := by
  haveI : FldI K (He.ga K "Shape") "_listed" := ⟨T.c_Shape, T.n_Shape__listed⟩
  haveI : FldI K (He.ga K "Shape") "_marks" := ⟨T.c_Shape, T.n_Shape__marks⟩
  haveI : FldI K (He.ga K "Web") "shape" := ⟨T.c_Web, T.n_Web_shape⟩
  haveI : FldI K (He.ga K "Web") "_rows" := ⟨T.c_Web, T.n_Web__rows⟩
  haveI : FldI K (He.ga K "Web") "_numbers" := ⟨T.c_Web, T.n_Web__numbers⟩
  haveI : FldI K (He.ga K "Standing") "web" := ⟨T.c_Standing, T.n_Standing_web⟩
  haveI : FldI K (He.ga K "Standing") "_modes" := ⟨T.c_Standing, T.n_Standing__modes⟩
  haveI : FldI K (He.ga K "Standing") "_holds" := ⟨T.c_Standing, T.n_Standing__holds⟩
  haveI : FldI K (He.ga K "Standing") "_loose" := ⟨T.c_Standing, T.n_Standing__loose⟩
  haveI : FldI K (He.ga K "Weaving") "web" := ⟨T.c_Weaving, T.n_Weaving_web⟩
  haveI : FldI K (He.ga K "Weaving") "_events" := ⟨T.c_Weaving, T.n_Weaving__events⟩
  haveI : FldI K (He.ga K "Weaving") "_standings" := ⟨T.c_Weaving, T.n_Weaving__standings⟩
  haveI : FldI K (He.ga K "Weaving") "_lockers" := ⟨T.c_Weaving, T.n_Weaving__lockers⟩
  haveI : FldI K (He.ga K "Weaving") "_edges" := ⟨T.c_Weaving, T.n_Weaving__edges⟩
  haveI := T.v_Shape_MARKS
  haveI := T.v_Shape_PARENTS
  haveI := T.v_Web_MOST
  haveI := T.i_DEEDS
  haveI := T.i_MODES
  refine metD T.c_Web T.m_Web_mark_of T.f_Web_mark_of sc_Web_mark_of (fun _ _ _ _ _ _ us hl => match us, hl with | [_, _], _ => rfl) (fun _ => rfl) (fun cdv A outer s H E hr => ?_)
  have hu := hu_of hr
  have hu64 := hu64_of hr
  have hu65 := hu65_of hr
  refine ⟨_, (pss_one (ps_ret (pe_ix (ixU K) (pe_subI C_Webdd_getitemdd hr (by decide) (getfn T.m_Webdd_getitemdd T.f_Webdd_getitemdd) (pv 0) (pv 1)) pe_int (fun _ _ => rfl)))), ?_⟩
  rintro ⟨⟨ms, rows, ts, fz, x, pr, pn⟩, t⟩ L g fr Q o hR
  cases fz with
  | true =>
    show Gk L [some (rWeb K ms rows ts), some (G.rI t)] [g] fr _
    walk_at "g0"
    refine k_subIn (c := ct_Webdd_getitemdd K) (fr := fr) (⟨ms, rows, ts, true, x, pr, pn⟩, t) rfl rfl o ?_
    rintro - -
    show Gk L _ (rWRow (ts.getD t.toNat default) :: _) fr _
    walk_at "g0"
    exact k_fin hR () trivial (fun _ h => h)
  | false =>
    show Gk L [some (rA x), some (G.rI t)] [g] (oIn x (He.ga K "Web") (webG K ms rows pr pn) :: oLs pr (ts.map rWRow) :: oLs pn ((nums ts.length).map G.rI) :: fr) _
    walk_at "g0"
    refine k_subIn (c := ct_Webdd_getitemdd K) (fr := fr) (⟨ms, rows, ts, false, x, pr, pn⟩, t) rfl rfl o ?_
    rintro - -
    show Gk L _ (rWRow (ts.getD t.toNat default) :: _) (oIn x (He.ga K "Web") (webG K ms rows pr pn) :: oLs pr (ts.map rWRow) :: oLs pn ((nums ts.length).map G.rI) :: fr) _
    walk_at "g0"
    exact k_fin hR () trivial (fun _ h => h)

end


/-! Standing.check -/
structure CheckD where
  a : StA
  p : Step
structure CheckOk (d : CheckD) : Prop where
  web : WebOk ⟨d.a.ms, d.a.rows, d.a.ts, true, 0, 0, 0⟩
  std : StdOk d.a.st
  step : StepOk d.a.ts d.a.st d.p
def ct_Standing_check (K : PySem.W.Frag) : Ct where
  δ := CheckD
  ε := Unit
  ok := CheckOk
  pre d := [rA d.a.x, rStep d.p]
  own d := stO K d.a
  post _ _ := True
  ret _ _ := rN
  out d _ := stO K d.a
section
variable {P : Program} {w : World} {K : PySem.W.Frag} {mg : Str → Option Value} {base : Heap}
set_option maxHeartbeats 4000000 in
theorem ok_Standing_check (T : Txt K mg) (C_Webdd_containsdd : Met P w K mg base 1 (He.ga K "Web") "__contains__" (Fn (ct_Webdd_containsdd K)) []) (C_Shape_modes_of : Met P w K mg base 3 (He.ga K "Shape") "modes_of" (Fn (ct_Shape_modes_of K)) []) (C_Web_mark_of : Met P w K mg base 4 (He.ga K "Web") "mark_of" (Fn (ct_Web_mark_of K)) []) : Met P w K mg base 5 (He.ga K "Standing") "check" (Fn (ct_Standing_check K)) [] := by
  haveI : FldI K (He.ga K "Shape") "_listed" := ⟨T.c_Shape, T.n_Shape__listed⟩
  haveI : FldI K (He.ga K "Shape") "_marks" := ⟨T.c_Shape, T.n_Shape__marks⟩
  haveI : FldI K (He.ga K "Web") "shape" := ⟨T.c_Web, T.n_Web_shape⟩
  haveI : FldI K (He.ga K "Web") "_rows" := ⟨T.c_Web, T.n_Web__rows⟩
  haveI : FldI K (He.ga K "Web") "_numbers" := ⟨T.c_Web, T.n_Web__numbers⟩
  haveI : FldI K (He.ga K "Standing") "web" := ⟨T.c_Standing, T.n_Standing_web⟩
  haveI : FldI K (He.ga K "Standing") "_modes" := ⟨T.c_Standing, T.n_Standing__modes⟩
  haveI : FldI K (He.ga K "Standing") "_holds" := ⟨T.c_Standing, T.n_Standing__holds⟩
  haveI : FldI K (He.ga K "Standing") "_loose" := ⟨T.c_Standing, T.n_Standing__loose⟩
  haveI : FldI K (He.ga K "Weaving") "web" := ⟨T.c_Weaving, T.n_Weaving_web⟩
  haveI : FldI K (He.ga K "Weaving") "_events" := ⟨T.c_Weaving, T.n_Weaving__events⟩
  haveI : FldI K (He.ga K "Weaving") "_standings" := ⟨T.c_Weaving, T.n_Weaving__standings⟩
  haveI : FldI K (He.ga K "Weaving") "_lockers" := ⟨T.c_Weaving, T.n_Weaving__lockers⟩
  haveI : FldI K (He.ga K "Weaving") "_edges" := ⟨T.c_Weaving, T.n_Weaving__edges⟩
  haveI := T.v_Shape_MARKS
  haveI := T.v_Shape_PARENTS
  haveI := T.v_Web_MOST
  haveI := T.i_DEEDS
  haveI := T.i_MODES
  refine metD T.c_Standing T.m_Standing_check T.f_Standing_check sc_Standing_check (fun _ _ _ _ _ _ us hl => match us, hl with | [_, _], _ => rfl) (fun _ => rfl) (fun cdv A outer s H E hr => ?_)
  have hu := hu_of hr
  have hu64 := hu64_of hr
  have hu65 := hu65_of hr
  refine ⟨_, (pss_cons (ps_asg (pv 1) (pg_unp K (is := [2, 3]) (pg_tup rfl (pgs_cons (pg_name (i := 2) sc_Standing_check.nd rfl (by first | exact Or.inl rfl | exact Or.inr rfl)) (pgs_cons (pg_name (i := 3) sc_Standing_check.nd rfl (by first | exact Or.inl rfl | exact Or.inr rfl)) pgs_nil)))))
    (pss_cons (ps_set (i := 1) sc_Standing_check.nd rfl (by first | exact Or.inl rfl | exact Or.inr rfl) (pe_tup (pa_cons (pv 2) (pa_cons (pv 3) pa_nil))))
    (pss_cons (ps_if (pt_cmpR (notInU K hu65) (pv 2) (pe_gc (by rfl) T.k_DEEDS) rfl) pss_never pss_nil)
    (pss_cons (ps_if (pt_cmpR (op_notInI C_Webdd_containsdd hr (by decide)) (pv 3) (fldU K (pv 0)) rfl) pss_never pss_nil)
    (pss_cons (ps_if (pt_cmpR (eqU K hu64) (pv 2) pe_str (nomark _)) (pss_cons (ps_if (pt_cmpR (op_dNotIn hu) (pv 3) (fldU K (pv 0)) rfl) pss_never pss_nil)
    (pss_one ps_retN)) pss_nil)
    (pss_cons (ps_if (pt_cmpR (op_dIn hu) (pv 3) (fldU K (pv 0)) rfl) pss_never pss_nil)
    (pss_one (ps_if (pt_cmpR (notInU K hu65) (pv 2) (pe_mt C_Shape_modes_of hr (by decide) (fldU K (fldU K (pv 0))) (pa_cons (pe_mt C_Web_mark_of hr (by decide) (fldU K (pv 0)) (pa_cons (pv 3) pa_nil)) pa_nil)) rfl) pss_never pss_nil)))))))), ?_⟩
  rintro ⟨⟨ms, rows, ts, s, x, pm, ph⟩, ⟨dd, t⟩⟩ L g fr Q ⟨o1, o2, ⟨o3, o4, o5, o6⟩⟩ hR
  dsimp only at o1 o2 o3 o4 o5 o6
  show Gk L [some (rA x), some (rStep ⟨dd, t⟩), none, none] [g] (oIn x (He.ga K "Standing") (standG K ms rows ts pm ph s.lo) :: oDk pm (modesKV s) :: oDk ph (holdsKV s) :: fr) _
  walk_at "g0"
  have hD : dd.s ∈ ([Str.ofString "own", Str.ofString "share", Str.ofString "drop"] : List Str) := by cases dd <;> decide
  rw [decide_eq_true (show (Step.deed ⟨dd, t⟩).s ∈ ([Str.ofString "own", Str.ofString "share", Str.ofString "drop"] : List Str) from hD)]
  refine k_ifF ?_
  walk_at "g0"
  refine k_notInI (c := ct_Webdd_containsdd K) (fr := (oIn x (He.ga K "Standing") (standG K ms rows ts pm ph s.lo) :: oDk pm (modesKV s) :: oDk ph (holdsKV s) :: fr)) (⟨ms, rows, ts, true, 0, 0, 0⟩, t) rfl rfl o1 (fun _ => decide (0 ≤ t) && decide (t < (ts.length : Int))) (fun _ _ => rfl) ?_
  rintro - -
  rw [decide_eq_true o3.1, decide_eq_true o3.2]
  refine k_tb ?_
  refine k_ifF ?_
  show Gk L _ _ (oIn x (He.ga K "Standing") (standG K ms rows ts pm ph s.lo) :: oDk pm (modesKV s) :: oDk ph (holdsKV s) :: fr) _
  walk_at "g0"
  refine k_ifD (fun h => ?_) (fun h => ?_)
  · have h : dd = .drop := Deed.s_inj h
    walk_at "g0"
    rw [holds_some, decide_eq_true (o4 h)]
    refine k_ifF ?_
    walk_at "g0"
    exact k_fin hR () trivial (fun _ h => h)
  · have h : dd ≠ .drop := fun e => h (by rw [e]; rfl)
    walk_at "g0"
    rw [modes_some, decide_eq_false (o5 h)]
    refine k_ifF ?_
    walk_at "g0"
    refine k_meth rfl ?_
    walk_at "g0"
    refine k_meth rfl ?_
    walk_at "g0"
    refine k_mcall (c := ct_Web_mark_of K) (fr := (oIn x (He.ga K "Standing") (standG K ms rows ts pm ph s.lo) :: oDk pm (modesKV s) :: oDk ph (holdsKV s) :: fr)) (⟨ms, rows, ts, true, 0, 0, 0⟩, t) rfl rfl ⟨o1, o3⟩ ?_
    rintro - -
    obtain ⟨r, r1, r2, r3⟩ := o1.things.row o3
    show Gk L _ (rS (ts.getD t.toNat default).mark :: _) (oIn x (He.ga K "Standing") (standG K ms rows ts pm ph s.lo) :: oDk pm (modesKV s) :: oDk ph (holdsKV s) :: fr) _
    rw [← r2]
    walk_at "g0"
    refine k_mcall (c := ct_Shape_modes_of K) (fr := (oIn x (He.ga K "Standing") (standG K ms rows ts pm ph s.lo) :: oDk pm (modesKV s) :: oDk ph (holdsKV s) :: fr)) ⟨ms, rows, r⟩ rfl rfl ⟨o1.rows, r1⟩ ?_
    rintro - -
    show Gk L _ (rTk K ((modesOf r.shared).map rS) :: _) (oIn x (He.ga K "Standing") (standG K ms rows ts pm ph s.lo) :: oDk pm (modesKV s) :: oDk ph (holdsKV s) :: fr) _
    walk_at "g0"
    have hm : Deed.s dd ∈ modesOf r.shared := by
      cases dd with
      | drop => exact absurd rfl h
      | own => unfold modesOf; split <;> decide
      | share => rw [r3, o6 rfl]; decide
    rw [decide_eq_true (show (Step.deed ⟨dd, t⟩).s ∈ modesOf r.shared from hm)]
    refine k_ifF ?_
    walk_at "g0"
    exact k_finN hR () trivial (fun _ h => h)

end


/-! Standing.take -/
structure TakeD where
  a : StA
  p : Step
structure TakeOk (d : TakeD) : Prop where
  web : WebOk ⟨d.a.ms, d.a.rows, d.a.ts, true, 0, 0, 0⟩
  std : StdOk d.a.st
  step : StepOk d.a.ts d.a.st d.p
def ct_Standing_take (K : PySem.W.Frag) : Ct where
  δ := TakeD
  ε := Unit
  ok := TakeOk
  pre d := [rA d.a.x, rStep d.p]
  own d := stO K d.a
  post _ _ := True
  ret _ _ := rN
  out d _ := stO K { d.a with st := takeS d.a.st d.p }
section
variable {P : Program} {w : World} {K : PySem.W.Frag} {mg : Str → Option Value} {base : Heap}
set_option maxHeartbeats 4000000 in
theorem ok_Standing_take (T : Txt K mg) (C_Standing_check : Met P w K mg base 5 (He.ga K "Standing") "check" (Fn (ct_Standing_check K)) []) : Met P w K mg base 6 (He.ga K "Standing") "take" (Fn (ct_Standing_take K)) [] := by
  haveI : FldI K (He.ga K "Shape") "_listed" := ⟨T.c_Shape, T.n_Shape__listed⟩
  haveI : FldI K (He.ga K "Shape") "_marks" := ⟨T.c_Shape, T.n_Shape__marks⟩
  haveI : FldI K (He.ga K "Web") "shape" := ⟨T.c_Web, T.n_Web_shape⟩
  haveI : FldI K (He.ga K "Web") "_rows" := ⟨T.c_Web, T.n_Web__rows⟩
  haveI : FldI K (He.ga K "Web") "_numbers" := ⟨T.c_Web, T.n_Web__numbers⟩
  haveI : FldI K (He.ga K "Standing") "web" := ⟨T.c_Standing, T.n_Standing_web⟩
  haveI : FldI K (He.ga K "Standing") "_modes" := ⟨T.c_Standing, T.n_Standing__modes⟩
  haveI : FldI K (He.ga K "Standing") "_holds" := ⟨T.c_Standing, T.n_Standing__holds⟩
  haveI : FldI K (He.ga K "Standing") "_loose" := ⟨T.c_Standing, T.n_Standing__loose⟩
  haveI : FldI K (He.ga K "Weaving") "web" := ⟨T.c_Weaving, T.n_Weaving_web⟩
  haveI : FldI K (He.ga K "Weaving") "_events" := ⟨T.c_Weaving, T.n_Weaving__events⟩
  haveI : FldI K (He.ga K "Weaving") "_standings" := ⟨T.c_Weaving, T.n_Weaving__standings⟩
  haveI : FldI K (He.ga K "Weaving") "_lockers" := ⟨T.c_Weaving, T.n_Weaving__lockers⟩
  haveI : FldI K (He.ga K "Weaving") "_edges" := ⟨T.c_Weaving, T.n_Weaving__edges⟩
  haveI := T.v_Shape_MARKS
  haveI := T.v_Shape_PARENTS
  haveI := T.v_Web_MOST
  haveI := T.i_DEEDS
  haveI := T.i_MODES
  refine metD T.c_Standing T.m_Standing_take T.f_Standing_take sc_Standing_take (fun _ _ _ _ _ _ us hl => match us, hl with | [_, _], _ => rfl) (fun _ => rfl) (fun cdv A outer s H E hr => ?_)
  have hu := hu_of hr
  have hu64 := hu64_of hr
  have hu65 := hu65_of hr
  refine ⟨_, (pss_cons (ps_expr (pe_mt C_Standing_check hr (by decide) (pv 0) (pa_cons (pv 1) pa_nil)))
    (pss_cons (ps_asg (pv 1) (pg_unp K (is := [2, 3]) (pg_tup rfl (pgs_cons (pg_name (i := 2) sc_Standing_take.nd rfl (by first | exact Or.inl rfl | exact Or.inr rfl)) (pgs_cons (pg_name (i := 3) sc_Standing_take.nd rfl (by first | exact Or.inl rfl | exact Or.inr rfl)) pgs_nil)))))
    (pss_one (ps_if (pt_cmpR (eqU K hu64) (pv 2) pe_str (nomark _)) (pss_cons (ps_ddel (fldU K (pv 0)) (pv 3))
    (pss_one (ps_fld (pv 0) pe_bl rfl))) (pss_cons (ps_dput hu (fldU K (pv 0)) (pv 3) (pv 2) rfl)
    (pss_one (ps_dput hu (fldU K (pv 0)) (pv 3) (pv 2) rfl))))))), ?_⟩
  rintro ⟨⟨ms, rows, ts, s, x, pm, ph⟩, ⟨dd, t⟩⟩ L g fr Q ⟨o1, o2, o3⟩ hR
  dsimp only at o1 o2 o3
  show Gk L [some (rA x), some (rStep ⟨dd, t⟩), none, none] [g] (oIn x (He.ga K "Standing") (standG K ms rows ts pm ph s.lo) :: oDk pm (modesKV s) :: oDk ph (holdsKV s) :: fr) _
  walk_at "g0"
  refine k_meth rfl ?_
  walk_at "g0"
  refine k_mcall (c := ct_Standing_check K) (fr := fr) ⟨⟨ms, rows, ts, s, x, pm, ph⟩, ⟨dd, t⟩⟩ rfl rfl ⟨o1, o2, o3⟩ ?_
  rintro - -
  show Gk L _ _ (oIn x (He.ga K "Standing") (standG K ms rows ts pm ph s.lo) :: oDk pm (modesKV s) :: oDk ph (holdsKV s) :: fr) _
  walk_at "g0"
  obtain ⟨o3, o4, o5, o6⟩ := o3
  dsimp only at o3 o4 o5 o6
  have hl1 := modesKV_len o2
  have hl2 := holdsKV_len o2
  refine k_ifD (fun h => ?_) (fun h => ?_)
  · have h : dd = .drop := Deed.s_inj h
    subst h
    walk_at "g0"
    refine k_ddel (k := Sum.inl t) (by rw [holds_some, decide_eq_true (o4 rfl)]) ?_
    walk_at "g0"
    refine k_sfld T.c_Standing T.n_Standing__loose (by show 4 < 900; decide) ?_
    rw [take_drop]
    refine k_finN hR () trivial (fun K1 h => ?_)
    have h : Gk L _ [rN, g] (oIn x (He.ga K "Standing") (standG K ms rows ts pm ph (takeS s ⟨.drop, t⟩).lo) :: oDk pm (modesKV (takeS s ⟨.drop, t⟩)) :: oDk ph (holdsKV (takeS s ⟨.drop, t⟩)) :: fr) K1 := h
    rw [take_lo_drop] at h
    exact h
  · have h : dd ≠ .drop := fun e => h (by rw [e]; rfl)
    walk_at "g0"
    rw [take_modes h (o5 h), take_holds o2 h (o5 h)]
    refine k_finN hR () trivial (fun K1 q => ?_)
    have q : Gk L _ [rN, g] (oIn x (He.ga K "Standing") (standG K ms rows ts pm ph (takeS s ⟨dd, t⟩).lo) :: oDk pm (modesKV (takeS s ⟨dd, t⟩)) :: oDk ph (holdsKV (takeS s ⟨dd, t⟩)) :: fr) K1 := q
    rw [take_lo_lock h] at q
    exact q

end


/-! Standing.copy -/
structure CopyD where
  ms : List Str
  rows : List Row
  ts : List Thing
  st : StD
structure CopyOk (d : CopyD) : Prop where
  web : WebOk ⟨d.ms, d.rows, d.ts, true, 0, 0, 0⟩
  std : StdOk d.st
  fit : StdW d.ts d.st
def ct_Standing_copy (K : PySem.W.Frag) : Ct where
  δ := CopyD
  ε := Addr × Addr × Addr
  ok := CopyOk
  pre d := [rStand K d.ms d.rows d.ts d.st]
  own d := []
  post _ _ := True
  ret _ e := rA e.1
  out d e := stO K ⟨d.ms, d.rows, d.ts, d.st, e.1, e.2.1, e.2.2⟩
section
variable {P : Program} {w : World} {K : PySem.W.Frag} {mg : Str → Option Value} {base : Heap}
set_option maxHeartbeats 4000000 in
theorem ok_Standing_copy (T : Txt K mg) (C_Standingdd_initdd : Mak P w K mg base 1 "Standing" (He.ga K "Standing") (Fn (ct_Standingdd_initdd K)) []) (C_Standing_take : Met P w K mg base 6 (He.ga K "Standing") "take" (Fn (ct_Standing_take K)) []) : Met P w K mg base 7 (He.ga K "Standing") "copy" (Fn (ct_Standing_copy K)) [] := by
  haveI : FldI K (He.ga K "Shape") "_listed" := ⟨T.c_Shape, T.n_Shape__listed⟩
  haveI : FldI K (He.ga K "Shape") "_marks" := ⟨T.c_Shape, T.n_Shape__marks⟩
  haveI : FldI K (He.ga K "Web") "shape" := ⟨T.c_Web, T.n_Web_shape⟩
  haveI : FldI K (He.ga K "Web") "_rows" := ⟨T.c_Web, T.n_Web__rows⟩
  haveI : FldI K (He.ga K "Web") "_numbers" := ⟨T.c_Web, T.n_Web__numbers⟩
  haveI : FldI K (He.ga K "Standing") "web" := ⟨T.c_Standing, T.n_Standing_web⟩
  haveI : FldI K (He.ga K "Standing") "_modes" := ⟨T.c_Standing, T.n_Standing__modes⟩
  haveI : FldI K (He.ga K "Standing") "_holds" := ⟨T.c_Standing, T.n_Standing__holds⟩
  haveI : FldI K (He.ga K "Standing") "_loose" := ⟨T.c_Standing, T.n_Standing__loose⟩
  haveI : FldI K (He.ga K "Weaving") "web" := ⟨T.c_Weaving, T.n_Weaving_web⟩
  haveI : FldI K (He.ga K "Weaving") "_events" := ⟨T.c_Weaving, T.n_Weaving__events⟩
  haveI : FldI K (He.ga K "Weaving") "_standings" := ⟨T.c_Weaving, T.n_Weaving__standings⟩
  haveI : FldI K (He.ga K "Weaving") "_lockers" := ⟨T.c_Weaving, T.n_Weaving__lockers⟩
  haveI : FldI K (He.ga K "Weaving") "_edges" := ⟨T.c_Weaving, T.n_Weaving__edges⟩
  haveI := T.v_Shape_MARKS
  haveI := T.v_Shape_PARENTS
  haveI := T.v_Web_MOST
  haveI := T.i_DEEDS
  haveI := T.i_MODES
  refine metD T.c_Standing T.m_Standing_copy T.f_Standing_copy sc_Standing_copy (fun _ _ _ _ _ _ us hl => match us, hl with | [_], _ => rfl) (fun _ => rfl) (fun cdv A outer s H E hr => ?_)
  have hu := hu_of hr
  have hu64 := hu64_of hr
  have hu65 := hu65_of hr
  refine ⟨_, (pss_cons (ps_set (i := 1) sc_Standing_copy.nd rfl (by first | exact Or.inl rfl | exact Or.inr rfl) (pe_mk C_Standingdd_initdd hr (by decide) (by rfl) (pa_cons (fldU K (pv 0)) pa_nil)))
    (pss_cons (ps_lockU (ps_for PassesOwn.never rfl (pi_items (fldU K (pv 0))) (pg_unp K (is := [2, 3]) (pg_tup rfl (pgs_cons (pg_name (i := 2) sc_Standing_copy.nd rfl (by first | exact Or.inl rfl | exact Or.inr rfl)) (pgs_cons (pg_name (i := 3) sc_Standing_copy.nd rfl (by first | exact Or.inl rfl | exact Or.inr rfl)) pgs_nil)))) (pss_one (ps_expr (pe_mt C_Standing_take hr (by decide) (pv 1) (pa_cons (pe_tup (pa_cons (pv 3) (pa_cons (pv 2) pa_nil))) pa_nil))))))
    (pss_cons (ps_lockU (ps_for PassesOwn.never rfl (pi_keys (fldU K (pv 0))) (pg_name (i := 2) sc_Standing_copy.nd rfl (by first | exact Or.inl rfl | exact Or.inr rfl)) (pss_one (ps_if (pt_cmpR (op_dNotIn hu) (pv 2) (fldU K (pv 0)) rfl) (pss_one (ps_expr (pe_mt C_Standing_take hr (by decide) (pv 1) (pa_cons (pe_tup (pa_cons pe_str (pa_cons (pv 2) pa_nil))) pa_nil)))) pss_nil))))
    (pss_one (ps_ret (pv 1)))))), ?_⟩
  rintro ⟨ms, rows, ts, s⟩ L g fr Q ⟨o1, o2, o3⟩ hR
  dsimp only at o1 o2 o3
  show Gk L [some (rStand K ms rows ts s), none, none, none] [g] fr _
  walk_at "g0"
  refine k_make (c := ct_Standingdd_initdd K) (fr := fr) (fun x => (x, ms, rows, ts)) (fun _ => rfl) (fun _ => rfl) (fun _ => trivial) (fun _ _ => rfl) ?_
  rintro x ⟨pm, ph⟩ -
  show Gk L _ (rA x :: _) (stO K ⟨ms, rows, ts, stTake s 0, x, pm, ph⟩ ++ fr) _
  walk_at "g0"
  refine k_pinD 0 (f := "_modes") (kqs := modesKV s) rfl rfl fun y d => ?_
  rw [standP_eq]
  refine k_perm (os' := stO K ⟨ms, rows, ts, stTake s 0, x, pm, ph⟩ ++ (oIs (.ref y) (rIn (He.ga K "Standing") (standP K ms rows ts d s)) :: oIs (.ref d) (rDk (modesKV s)) :: fr)) (perm3 (X := [_, _]) (S := [_, _, _])) ?_
  show Gk L [some (rA y), some (rA x), none, none] [g] _ _
  generalize hfr : (oIs (.ref y) (rIn (He.ga K "Standing") (standP K ms rows ts d s)) :: oIs (.ref d) (rDk (modesKV s)) :: fr) = fr2
  refine k_forItems (h := ⟨by rw [← hfr]; rfl⟩) (j := 4) (d := d) (kqs := modesKV s) (fun L' gh K' h => ?_) (T := Nat) (fun i s => s = i) (fun _ => [some (rA y), some (rA x), none, none]) (fun i => stO K ⟨ms, rows, ts, stTake s i, x, pm, ph⟩ ++ fr2) 0 rfl (by walk_at "le") rfl ?_ ?_
  · subst hfr
    conv => arg 4; dsimp only [stO, List.cons_append, List.nil_append]
    walk_at "g0"
    exact h
  · rintro L' D' i k q gh gh' j N hq rfl hN
    obtain ⟨p, hp, e⟩ := map_getG (t := fun p : Int × Deed => ((Sum.inl p.1 : Key), rS p.2.s)) hq
    cases e
    show Gk L' [some (rA y), some (rA x), none, none] (rTp [G.rI p.1, rS p.2.s] :: _) (oIn x _ _ :: _) _
    walk_at "g0"
    refine k_meth rfl ?_
    walk_at "g0"
    refine k_mcall (c := ct_Standing_take K) (fr := fr2) ⟨⟨ms, rows, ts, stTake s j, x, pm, ph⟩, ⟨p.2, p.1⟩⟩ rfl rfl ⟨o1, stTake_ok o2 j, stTake_step o2 o3 hp⟩ ?_
    rintro - -
    conv => arg 4; dsimp only [ct_Standing_take]; rw [stTake_succ o2 hp]
    walk_at "g0"
    refine k_le (by walk_at "le") rfl (hN (j + 1) ?_)
    rfl
  · rintro j rfl
    rw [show (modesKV s).length = s.locks.length from by unfold modesKV; rw [List.length_map]]
    have e0 : stTake s s.locks.length = stDr s 0 := by unfold stTake stDr; rw [List.take_length, List.take_zero]; rfl
    rw [e0]
    walk_at "g0"
    refine k_forKeys (h := ⟨by rw [← hfr]; rfl⟩) (j := 4) (d := d) (kqs := modesKV s) (fun L' gh K' h => ?_) (T := Nat) (fun i s => s = i) (fun _ => [some (rA y), some (rA x), none, none]) (fun i => stO K ⟨ms, rows, ts, stDr s i, x, pm, ph⟩ ++ fr2) 0 rfl (by walk_at "le") rfl ?_ ?_
    · subst hfr
      conv => arg 4; dsimp only [stO, List.cons_append, List.nil_append]
      walk_at "g0"
      exact h
    · rintro L' D' i k q gh gh' j N hq rfl hN
      obtain ⟨p, hp, e⟩ := map_getG (t := fun p : Int × Deed => ((Sum.inl p.1 : Key), rS p.2.s)) hq
      cases e
      have hpm := List.mem_of_getElem? hp
      show Gk L' [some (rA y), some (rA x), none, none] (G.rI p.1 :: _) _ _
      rw [← hfr] at hN ⊢
      conv => arg 4; dsimp only [stO, List.cons_append, List.nil_append]
      walk_at "g0"
      rw [holds_some]
      by_cases hd : p.1 ∈ s.dr
      · have hn : p.1 ∉ (holdsL s).map Prod.fst := fun h => by
          obtain ⟨⟨t, d⟩, h1, h2⟩ := List.mem_map.mp h
          have := (mem_holdsL.mp h1).2
          rw [show t = p.1 from h2] at this
          exact this hd
        rw [decide_eq_false hn]
        refine k_ifT ?_
        walk_at "g0"
        refine k_meth rfl ?_
        walk_at "g0"
        refine k_mcall (c := ct_Standing_take K) (fr := oIs (.ref y) (rIn (He.ga K "Standing") (standP K ms rows ts d s)) :: oIs (.ref d) (rDk (modesKV s)) :: fr) ⟨⟨ms, rows, ts, stDr s j, x, pm, ph⟩, ⟨.drop, p.1⟩⟩ rfl rfl ⟨o1, stDr_ok o2 j, stDr_step o2 o3 hp hd⟩ ?_
        rintro - -
        conv => arg 4; dsimp only [ct_Standing_take]; rw [stDr_drop hp hd]
        walk_at "g0"
        refine k_le (by walk_at "le") rfl (hN (j + 1) ?_)
        rfl
      · have hn : p.1 ∈ (holdsL s).map Prod.fst := List.mem_map.mpr ⟨p, mem_holdsL.mpr ⟨hpm, hd⟩, rfl⟩
        rw [decide_eq_true hn]
        refine k_ifF ?_
        rw [stDr_keep hp hd]
        walk_at "g0"
        refine k_le (by walk_at "le") rfl (hN (j + 1) ?_)
        rfl
    · rintro j rfl
      rw [show (modesKV s).length = s.locks.length from by unfold modesKV; rw [List.length_map]]
      rw [← hfr]
      walk_at "g0"
      refine k_perm (perm3 (X := [_, _]) (S := [_, _, _])).symm ?_
      refine k_forget 0 ?_
      refine k_forget 0 ?_
      refine k_fin hR (x, pm, ph) trivial (fun K1 h => ?_)
      have h : Gk L _ [rA x, g] (oIn x (He.ga K "Standing") (standG K ms rows ts pm ph s.lo) :: oDk pm (modesKV s) :: oDk ph (holdsKV s) :: fr) K1 := h
      show Gk L _ [rA x, g] (oIn x (He.ga K "Standing") (standG K ms rows ts pm ph (stDr s s.locks.length).lo) :: oDk pm (modesKV s) :: oDk ph (holdsKV (stDr s s.locks.length)) :: fr) K1
      rw [stDr_lo o2, stDr_holds o2]
      exact h

end


/-! Weaving.standing_of -/
structure SofD where
  w : WvD
  a : WvA
  name : Int
def ct_Weaving_standing_of (K : PySem.W.Frag) : Ct where
  δ := SofD
  ε := Addr × Addr × Addr
  ok d := WvOk d.w
  pre d := [rA d.a.x, G.rI d.name]
  own d := wvO K d.w d.a
  post _ _ := True
  ret _ e := rA e.1
  out d e := stO K ⟨d.w.ms, d.w.rows, d.w.ts, stOf d.w.evs d.name, e.1, e.2.1, e.2.2⟩ ++ wvO K d.w d.a
section
variable {P : Program} {w : World} {K : PySem.W.Frag} {mg : Str → Option Value} {base : Heap}
set_option maxHeartbeats 4000000 in
theorem ok_Weaving_standing_of (T : Txt K mg) (C_Standing_copy : Met P w K mg base 7 (He.ga K "Standing") "copy" (Fn (ct_Standing_copy K)) []) (C_Standingdd_initdd : Mak P w K mg base 1 "Standing" (He.ga K "Standing") (Fn (ct_Standingdd_initdd K)) []) : Met P w K mg base 8 (He.ga K "Weaving") "standing_of" (Fn (ct_Weaving_standing_of K)) [] := by
  haveI : FldI K (He.ga K "Shape") "_listed" := ⟨T.c_Shape, T.n_Shape__listed⟩
  haveI : FldI K (He.ga K "Shape") "_marks" := ⟨T.c_Shape, T.n_Shape__marks⟩
  haveI : FldI K (He.ga K "Web") "shape" := ⟨T.c_Web, T.n_Web_shape⟩
  haveI : FldI K (He.ga K "Web") "_rows" := ⟨T.c_Web, T.n_Web__rows⟩
  haveI : FldI K (He.ga K "Web") "_numbers" := ⟨T.c_Web, T.n_Web__numbers⟩
  haveI : FldI K (He.ga K "Standing") "web" := ⟨T.c_Standing, T.n_Standing_web⟩
  haveI : FldI K (He.ga K "Standing") "_modes" := ⟨T.c_Standing, T.n_Standing__modes⟩
  haveI : FldI K (He.ga K "Standing") "_holds" := ⟨T.c_Standing, T.n_Standing__holds⟩
  haveI : FldI K (He.ga K "Standing") "_loose" := ⟨T.c_Standing, T.n_Standing__loose⟩
  haveI : FldI K (He.ga K "Weaving") "web" := ⟨T.c_Weaving, T.n_Weaving_web⟩
  haveI : FldI K (He.ga K "Weaving") "_events" := ⟨T.c_Weaving, T.n_Weaving__events⟩
  haveI : FldI K (He.ga K "Weaving") "_standings" := ⟨T.c_Weaving, T.n_Weaving__standings⟩
  haveI : FldI K (He.ga K "Weaving") "_lockers" := ⟨T.c_Weaving, T.n_Weaving__lockers⟩
  haveI : FldI K (He.ga K "Weaving") "_edges" := ⟨T.c_Weaving, T.n_Weaving__edges⟩
  haveI := T.v_Shape_MARKS
  haveI := T.v_Shape_PARENTS
  haveI := T.v_Web_MOST
  haveI := T.i_DEEDS
  haveI := T.i_MODES
  refine metD T.c_Weaving T.m_Weaving_standing_of T.f_Weaving_standing_of sc_Weaving_standing_of (fun _ _ _ _ _ _ us hl => match us, hl with | [_, _], _ => rfl) (fun _ => rfl) (fun cdv A outer s H E hr => ?_)
  have hu := hu_of hr
  have hu64 := hu64_of hr
  have hu65 := hu65_of hr
  refine ⟨_, (pss_cons (ps_if (pt_cmpR (op_dIn hu) (pv 1) (fldU K (pv 0)) rfl) (pss_one (ps_ret (pe_mt0 C_Standing_copy hr (by decide) (pe_dget hu (fldU K (pv 0)) (pv 1) (fun _ _ => rfl))))) pss_nil)
    (pss_one (ps_ret (pe_mk C_Standingdd_initdd hr (by decide) (by rfl) (pa_cons (fldU K (pv 0)) pa_nil))))), ?_⟩
  rintro ⟨w, ⟨x, pe, ps, pl, pd⟩, n⟩ L g fr Q ⟨o1, o2, o3, o4⟩ hR
  dsimp only at o1 o2 o3 o4
  show Gk L [some (rA x), some (G.rI n)] [g] (oIn x (He.ga K "Weaving") (wvG K w ⟨x, pe, ps, pl, pd⟩) :: oLs pe (w.evs.map rEv) :: oDk ps (standsKV K w.ms w.rows w.ts w.evs) :: oDk pl (lockersKV w.evs) :: oDt pd (edgesKV w.ed) :: fr) _
  walk_at "g0"
  have hv : valR (standsKV K w.ms w.rows w.ts w.evs) (Sum.inl n) = if n ∈ namesOf w.evs then some (rStand K w.ms w.rows w.ts (stOf w.evs n)) else none := by unfold standsKV; exact kvOf_val
  by_cases hn : n ∈ namesOf w.evs
  · rw [if_pos hn] at hv
    rw [hv]
    refine k_ifT ?_
    walk_at "g0"
    refine k_dget hv ?_
    walk_at "g0"
    refine k_meth rfl ?_
    walk_at "g0"
    refine k_mcall (c := ct_Standing_copy K) (fr := wvO K w ⟨x, pe, ps, pl, pd⟩ ++ fr) ⟨w.ms, w.rows, w.ts, stOf w.evs n⟩ rfl rfl ⟨o1, run_std o2 (by omega) n, run_stdW o2 n⟩ ?_
    rintro ⟨y, pm, ph⟩ -
    walk_at "g0"
    exact k_fin hR (y, pm, ph) trivial (fun K1 h => h)
  · rw [if_neg hn] at hv
    rw [hv]
    refine k_ifF ?_
    walk_at "g0"
    refine k_make (c := ct_Standingdd_initdd K) (fr := wvO K w ⟨x, pe, ps, pl, pd⟩ ++ fr) (fun y => (y, w.ms, w.rows, w.ts)) (fun _ => rfl) (fun _ => rfl) (fun _ => trivial) (fun _ _ => rfl) ?_
    rintro y ⟨pm, ph⟩ -
    refine k_fin hR (y, pm, ph) trivial (fun K1 h => ?_)
    have h : Gk L _ [rA y, g] (stO K ⟨w.ms, w.rows, w.ts, stOf w.evs n, y, pm, ph⟩ ++ (wvO K w ⟨x, pe, ps, pl, pd⟩ ++ fr)) K1 := h
    rw [stOf_none hn] at h
    exact h

end


/-! suitable -/
structure SuitD where
  web : WebD
  r : Row
  ps : List Int
structure SuitOk (d : SuitD) : Prop where
  web : WebOk d.web
  own : d.web.fz = false
  num : d.r.least ≤ d.ps.length ∧ d.ps.length ≤ d.r.most
  nd : d.ps.Nodup
  len : d.ps.length ≤ 100
  at_ : ∀ p ∈ d.ps, (0 ≤ p ∧ p < d.web.ts.length) ∧ (d.web.ts.getD p.toNat default).mark ∈ d.r.parents
def ct_suitable (K : PySem.W.Frag) : Ct where
  δ := SuitD
  ε := Unit
  ok := SuitOk
  pre d := [webR K d.web, rRowT d.r, rTp (d.ps.map G.rI)]
  own d := webO K d.web
  post _ _ := True
  ret _ _ := rB true
  out d _ := webO K d.web
section
variable {P : Program} {w : World} {K : PySem.W.Frag} {mg : Str → Option Value} {base : Heap}
set_option maxHeartbeats 4000000 in
theorem ok_suitable (T : Txt K mg) (C_Web_mark_of : Met P w K mg base 4 (He.ga K "Web") "mark_of" (Fn (ct_Web_mark_of K)) []) : Cal P w K mg base 5 "suitable" (Fn (ct_suitable K)) [] := by
  haveI : FldI K (He.ga K "Shape") "_listed" := ⟨T.c_Shape, T.n_Shape__listed⟩
  haveI : FldI K (He.ga K "Shape") "_marks" := ⟨T.c_Shape, T.n_Shape__marks⟩
  haveI : FldI K (He.ga K "Web") "shape" := ⟨T.c_Web, T.n_Web_shape⟩
  haveI : FldI K (He.ga K "Web") "_rows" := ⟨T.c_Web, T.n_Web__rows⟩
  haveI : FldI K (He.ga K "Web") "_numbers" := ⟨T.c_Web, T.n_Web__numbers⟩
  haveI : FldI K (He.ga K "Standing") "web" := ⟨T.c_Standing, T.n_Standing_web⟩
  haveI : FldI K (He.ga K "Standing") "_modes" := ⟨T.c_Standing, T.n_Standing__modes⟩
  haveI : FldI K (He.ga K "Standing") "_holds" := ⟨T.c_Standing, T.n_Standing__holds⟩
  haveI : FldI K (He.ga K "Standing") "_loose" := ⟨T.c_Standing, T.n_Standing__loose⟩
  haveI : FldI K (He.ga K "Weaving") "web" := ⟨T.c_Weaving, T.n_Weaving_web⟩
  haveI : FldI K (He.ga K "Weaving") "_events" := ⟨T.c_Weaving, T.n_Weaving__events⟩
  haveI : FldI K (He.ga K "Weaving") "_standings" := ⟨T.c_Weaving, T.n_Weaving__standings⟩
  haveI : FldI K (He.ga K "Weaving") "_lockers" := ⟨T.c_Weaving, T.n_Weaving__lockers⟩
  haveI : FldI K (He.ga K "Weaving") "_edges" := ⟨T.c_Weaving, T.n_Weaving__edges⟩
  haveI := T.v_Shape_MARKS
  haveI := T.v_Shape_PARENTS
  haveI := T.v_Web_MOST
  haveI := T.i_DEEDS
  haveI := T.i_MODES
  refine calD T.f_suitable T.g_suitable sc_suitable (fun _ _ _ _ _ _ us hl => match us, hl with | [_, _, _], _ => rfl) (fun _ => rfl) (fun cdv A outer s H E hr => ?_)
  have hu := hu_of hr
  have hu64 := hu64_of hr
  have hu65 := hu65_of hr
  refine ⟨_, (pss_cons (ps_if (pt_not (pt_chain op_le op_le (pe_ix (ixU K) (pv 1) pe_int (fun _ _ => rfl)) (pe_callB (lenU K) (by rfl) T.z_len PySem.boot_len (pa_cons (pv 2) pa_nil)) (pe_ix (ixU K) (pv 1) pe_int (fun _ _ => rfl)))) (pss_one (ps_ret pe_bl)) pss_nil)
    (pss_cons (ps_for PassesOwn.never rfl (pi_enumT K (by rfl) T.z_enumerate (pa_cons (pv 2) pa_nil)) (pg_unp K (is := [3, 4]) (pg_tup rfl (pgs_cons (pg_name (i := 3) sc_suitable.nd rfl (by first | exact Or.inl rfl | exact Or.inr rfl)) (pgs_cons (pg_name (i := 4) sc_suitable.nd rfl (by first | exact Or.inl rfl | exact Or.inr rfl)) pgs_nil))))
    (pss_one (ps_if (PW.pt (pw_or (pt_cmpR (inU K hu65) (pv 4) (pe_slice (slTup K) (pv 2) po_none (po_some (pv 3))) rfl) (pw_or1 (pt_cmpR (notInU K hu65) (pe_mt C_Web_mark_of hr (by decide) (pv 0) (pa_cons (pv 4) pa_nil)) (pe_ix (ixU K) (pv 1) pe_int (fun _ _ => rfl)) rfl)))) (pss_one (ps_ret pe_bl)) pss_nil)))
    (pss_one (ps_ret pe_bl)))), ?_⟩
  rintro ⟨⟨ms, rows, ts, fz, x, pr, pn⟩, r, ps⟩ L g fr Q ⟨o, o1, ⟨o2, o3⟩, o4, o5, o6⟩ hR
  dsimp only at o o1 o2 o3 o4 o5 o6
  subst o1
  show Gk L [some (rA x), some (rRowT r), some (rTp (ps.map G.rI)), none, none] [g] (oIn x (He.ga K "Web") (webG K ms rows pr pn) :: oLs pr (ts.map rWRow) :: oLs pn ((nums ts.length).map G.rI) :: fr) _
  walk_at "g0"
  rw [decide_eq_true o2]
  walk_at "g0"
  rw [decide_eq_true o3]
  refine k_ifF ?_
  walk_at "g0"
  refine k_forEn (qs := ps.map G.rI) (T := Unit) (fun _ _ => True) (fun _ => [some (rA x), some (rRowT r), some (rTp (ps.map G.rI)), none, none]) (fun _ => oIn x (He.ga K "Web") (webG K ms rows pr pn) :: oLs pr (ts.map rWRow) :: oLs pn ((nums ts.length).map G.rI) :: fr) () trivial (by walk_at "le") rfl ?_ ?_
  · rintro i q gh - N hq - hN
    obtain ⟨p, hp, rfl⟩ := map_get hq
    have hi := (List.getElem?_eq_some_iff.mp hp).1
    obtain ⟨h1, h2⟩ := o6 p (List.mem_of_getElem? hp)
    walk_at "g0"
    refine k_slT (qs := ps.map G.rI) (fun z => ?_) ?_
    · have z2 := z.2
      rw [List.length_map] at z2
      rw [HT.sIx_nat] at z2
      omega
    rw [cutR_map, cut_to (by omega : (0:Int) ≤ i), Int.toNat_natCast]
    have hnt : p ∉ ps.take i := by
      have h2 : (ps.take (i + 1)).Nodup := o4.sublist (List.take_sublist _ _)
      rw [take_snoc hp] at h2
      exact fun hm => (List.nodup_append.mp h2).2.2 _ hm _ (List.mem_singleton.mpr rfl) rfl
    walk_at "g0"
    rw [decide_eq_false hnt]
    walk_at "g0"
    refine k_meth rfl ?_
    walk_at "g0"
    refine k_mcall (c := ct_Web_mark_of K) (fr := fr) (⟨ms, rows, ts, false, x, pr, pn⟩, p) rfl rfl ⟨o, h1⟩ ?_
    rintro - -
    show Gk L _ (rS (ts.getD p.toNat default).mark :: _) (oIn x (He.ga K "Web") (webG K ms rows pr pn) :: oLs pr (ts.map rWRow) :: oLs pn ((nums ts.length).map G.rI) :: fr) _
    walk_at "g0"
    rw [decide_eq_true h2]
    refine k_ifF ?_
    walk_at "g0"
    refine k_le (by walk_at "le") rfl (hN () ?_)
    trivial
  · rintro - -
    walk_at "g0"
    exact k_fin hR () trivial (fun _ h => h)

end


/-! Web.put -/
structure PutD where
  web : WebD
  r : Row
  ps : List Int
structure PutOk (d : PutD) : Prop where
  suit : SuitOk ⟨d.web, d.r, d.ps⟩
  mem : d.r ∈ d.web.rows
def putThing (d : PutD) : Thing := ⟨d.r.mark, d.ps, d.r.shared⟩
def ct_Web_put (K : PySem.W.Frag) : Ct where
  δ := PutD
  ε := Unit
  ok := PutOk
  pre d := [webR K d.web, rS d.r.mark, rTp (d.ps.map G.rI)]
  own d := webO K d.web
  post _ _ := True
  ret d _ := G.rI d.web.ts.length
  out d _ := webO K { d.web with ts := d.web.ts ++ [putThing d] }
def fro_Web_put (K : PySem.W.Frag) (d : PutD) : List R := [webR K d.web, rS d.r.mark]
def rest_Web_put (d : PutD) : List R := d.ps.map G.rI
theorem restlen_Web_put (d : PutD) (h : PutOk d) : (rest_Web_put d).length ≤ 10000 := by
  unfold rest_Web_put
  rw [List.length_map]
  have := h.suit.len
  have : d.ps.length ≤ 100 := this
  omega
section
variable {P : Program} {w : World} {K : PySem.W.Frag} {mg : Str → Option Value} {base : Heap}
set_option maxHeartbeats 4000000 in
theorem ok_Web_put (T : Txt K mg) (C_Shapedd_getitemdd : Met P w K mg base 1 (He.ga K "Shape") "__getitem__" (Fn (ct_Shapedd_getitemdd K)) []) (C_Webdd_containsdd : Met P w K mg base 1 (He.ga K "Web") "__contains__" (Fn (ct_Webdd_containsdd K)) []) (C_suitable : Cal P w K mg base 5 "suitable" (Fn (ct_suitable K)) []) : MetS P w K mg base 6 (He.ga K "Web") "put" (Fn (starCt (ct_Web_put K) (fro_Web_put K) rest_Web_put)) := by
  haveI : FldI K (He.ga K "Shape") "_listed" := ⟨T.c_Shape, T.n_Shape__listed⟩
  haveI : FldI K (He.ga K "Shape") "_marks" := ⟨T.c_Shape, T.n_Shape__marks⟩
  haveI : FldI K (He.ga K "Web") "shape" := ⟨T.c_Web, T.n_Web_shape⟩
  haveI : FldI K (He.ga K "Web") "_rows" := ⟨T.c_Web, T.n_Web__rows⟩
  haveI : FldI K (He.ga K "Web") "_numbers" := ⟨T.c_Web, T.n_Web__numbers⟩
  haveI : FldI K (He.ga K "Standing") "web" := ⟨T.c_Standing, T.n_Standing_web⟩
  haveI : FldI K (He.ga K "Standing") "_modes" := ⟨T.c_Standing, T.n_Standing__modes⟩
  haveI : FldI K (He.ga K "Standing") "_holds" := ⟨T.c_Standing, T.n_Standing__holds⟩
  haveI : FldI K (He.ga K "Standing") "_loose" := ⟨T.c_Standing, T.n_Standing__loose⟩
  haveI : FldI K (He.ga K "Weaving") "web" := ⟨T.c_Weaving, T.n_Weaving_web⟩
  haveI : FldI K (He.ga K "Weaving") "_events" := ⟨T.c_Weaving, T.n_Weaving__events⟩
  haveI : FldI K (He.ga K "Weaving") "_standings" := ⟨T.c_Weaving, T.n_Weaving__standings⟩
  haveI : FldI K (He.ga K "Weaving") "_lockers" := ⟨T.c_Weaving, T.n_Weaving__lockers⟩
  haveI : FldI K (He.ga K "Weaving") "_edges" := ⟨T.c_Weaving, T.n_Weaving__edges⟩
  haveI := T.v_Shape_MARKS
  haveI := T.v_Shape_PARENTS
  haveI := T.v_Web_MOST
  haveI := T.i_DEEDS
  haveI := T.i_MODES
  refine ⟨_, T.c_Web, T.m_Web_put, ?_⟩
  refine starR (ps := [("self" : Str), ("mark" : Str)]) (pv := "parents") (c := (ct_Web_put K)) (fro := (fro_Web_put K)) (rest := rest_Web_put) T.f_Web_put sc_Web_put (fun kV doc pm an cdv ct => StX.bind_star2 (B := fun l => bindArgs (PySem.W.fnOf "put" "Web.put" (defArgs s_Web_put) (defBody s_Web_put) (defScope s_Web_put) .none kV doc pm an cdv ct) ⟨l, []⟩) (fun _ _ => rfl) (fun _ _ _ _ => rfl)) (fun _ => rfl) (fun _ => rfl) restlen_Web_put (fun cdv A outer s H E hr => ?_)
  have hu := hu_of hr
  have hu64 := hu64_of hr
  have hu65 := hu65_of hr
  refine ⟨_, (pss_cons (ps_set (i := 3) sc_Web_put.nd rfl (by first | exact Or.inl rfl | exact Or.inr rfl) (pe_subI C_Shapedd_getitemdd hr (by decide) (getfn T.m_Shapedd_getitemdd T.f_Shapedd_getitemdd) (fldU K (pv 0)) (pv 1)))
    (pss_cons (ps_for PassesOwn.never rfl (piT K (pv 2)) (pg_name (i := 4) sc_Web_put.nd rfl (by first | exact Or.inl rfl | exact Or.inr rfl))
    (pss_one (ps_if (pt_cmpR (op_notInI C_Webdd_containsdd hr (by decide)) (pv 4) (pv 0) rfl) pss_never pss_nil)))
    (pss_cons (ps_if (pt_not (pt_val (pe_c C_suitable hr (by decide) (by rfl) (pa_cons (pv 0) (pa_cons (pv 3) (pa_cons (pv 2) pa_nil)))))) pss_never pss_nil)
    (pss_cons (ps_if (pt_cmpR op_ge (pe_callB (lenU K) (by rfl) T.z_len PySem.boot_len (pa_cons (fldU K (pv 0)) pa_nil)) (pe_cvalU K (pe_gc (v := .ref (He.ga K "Web")) (by rfl) ⟨_, T.g_Webdd_initdd, rfl⟩)) (nomark _)) pss_never pss_nil)
    (pss_cons (ps_set (i := 5) sc_Web_put.nd rfl (by first | exact Or.inl rfl | exact Or.inr rfl) (pe_callB (lenU K) (by rfl) T.z_len PySem.boot_len (pa_cons (fldU K (pv 0)) pa_nil)))
    (pss_cons (ps_expr (pe_bm PySem.F.plainAttrs_list PySem.F.slot_list_append PySem.F.type_list_append mt_append (fldU K (pv 0)) (pa_cons (pe_tup (pa_cons (pv 1) (pa_cons (pe_callTy (tupU K) (by rfl) T.z_tuple (by decide +kernel) (pa_cons (pv 2) pa_nil)) pa_nil))) pa_nil)))
    (pss_cons (ps_expr (pe_bm PySem.F.plainAttrs_list PySem.F.slot_list_append PySem.F.type_list_append mt_append (fldU K (pv 0)) (pa_cons (pv 5) pa_nil)))
    (pss_one (ps_ret (pv 5)))))))))), ?_⟩
  rintro ⟨⟨ms, rows, ts, fz, x, pr, pn⟩, r, ps⟩ L g fr Q ⟨o, o2⟩ hR
  dsimp only at o o2
  obtain ⟨oo, o1, oo2, oo3, oo4, oo5⟩ := o
  dsimp only at oo o1 oo2 oo3 oo4 oo5
  subst o1
  obtain ⟨w1, w2, w3, w4⟩ := oo
  dsimp only at w1 w2 w3 w4
  show Gk L [some (rA x), some (rS r.mark), some (rTp (ps.map G.rI)), none, none, none] [g] (oIn x (He.ga K "Web") (webG K ms rows pr pn) :: oLs pr (ts.map rWRow) :: oLs pn ((nums ts.length).map G.rI) :: fr) _
  walk_at "g0"
  refine k_subIn (c := ct_Shapedd_getitemdd K) (fr := (oIn x (He.ga K "Web") (webG K ms rows pr pn) :: oLs pr (ts.map rWRow) :: oLs pn ((nums ts.length).map G.rI) :: fr)) ⟨ms, rows, r⟩ rfl rfl ⟨w1, o2⟩ ?_
  rintro - -
  show Gk L _ (rRowT r :: _) (oIn x (He.ga K "Web") (webG K ms rows pr pn) :: oLs pr (ts.map rWRow) :: oLs pn ((nums ts.length).map G.rI) :: fr) _
  walk_at "g0"
  refine k_forTu (qs := ps.map G.rI) (T := Unit) (fun _ _ => True) (fun _ => [some (rA x), some (rS r.mark), some (rTp (ps.map G.rI)), some (rRowT r), none, none]) (fun _ => (oIn x (He.ga K "Web") (webG K ms rows pr pn) :: oLs pr (ts.map rWRow) :: oLs pn ((nums ts.length).map G.rI) :: fr)) () trivial (by walk_at "le") rfl ?_ ?_
  · rintro i q gh - N hq - hN
    obtain ⟨p, hp, rfl⟩ := map_get hq
    obtain ⟨h1, h2⟩ := oo5 p (List.mem_of_getElem? hp)
    walk_at "g0"
    refine k_notInI (c := ct_Webdd_containsdd K) (fr := fr) (⟨ms, rows, ts, false, x, pr, pn⟩, p) rfl rfl ⟨w1, w2, w3, w4⟩ (fun _ => decide (0 ≤ p) && decide (p < (ts.length : Int))) (fun _ _ => rfl) ?_
    rintro - -
    rw [decide_eq_true h1.1, decide_eq_true h1.2]
    refine k_tb ?_
    refine k_ifF ?_
    show Gk L _ _ (oIn x (He.ga K "Web") (webG K ms rows pr pn) :: oLs pr (ts.map rWRow) :: oLs pn ((nums ts.length).map G.rI) :: fr) _
    walk_at "g0"
    refine k_le (by walk_at "le") rfl (hN () ?_)
    trivial
  · rintro - -
    walk_at "g0"
    refine k_callF (c := ct_suitable K) (fr := fr) ⟨⟨ms, rows, ts, false, x, pr, pn⟩, r, ps⟩ rfl rfl ⟨⟨w1, w2, w3, w4⟩, rfl, oo2, oo3, oo4, oo5⟩ ?_
    rintro - -
    show Gk L _ (rB true :: _) (oIn x (He.ga K "Web") (webG K ms rows pr pn) :: oLs pr (ts.map rWRow) :: oLs pn ((nums ts.length).map G.rI) :: fr) _
    refine k_tb ?_
    refine k_ifF ?_
    walk_at "g0"
    rw [decide_eq_false (by omega : ¬ (1000:Int) ≤ ts.length)]
    have hnl : (nums ts.length).length ≤ 10000 := by unfold nums; rw [List.length_map, List.length_range]; omega
    walk_at "g0"
    refine k_fin hR () trivial (fun K1 h => ?_)
    have h : Gk L _ [G.rI ts.length, g] (oIn x (He.ga K "Web") (webG K ms rows pr pn) :: oLs pr ((ts ++ [(⟨r.mark, ps, r.shared⟩ : Thing)]).map rWRow) :: oLs pn ((nums (ts ++ [(⟨r.mark, ps, r.shared⟩ : Thing)]).length).map G.rI) :: fr) K1 := h
    rw [List.length_append, List.length_singleton, nums_snoc, List.map_append (f := rWRow)] at h
    exact h

end


/-! Weaving.add -/
structure AddD where
  w : WvD
  a : WvA
  e : Ev
structure AddOk (d : AddD) : Prop where
  w : WvOk d.w
  legal : Legal d.w.ts d.w.evs d.e
  len : d.w.evs.length < 50
def ct_Weaving_add (K : PySem.W.Frag) : Ct where
  δ := AddD
  ε := List (Int × Int)
  ok := AddOk
  pre d := [rA d.a.x, G.rI d.e.name, rStep d.e.step]
  own d := wvO K d.w d.a
  post d ed := EdOk (d.w.evs ++ [d.e]) ed
  ret _ _ := rN
  out d ed := wvO K ⟨d.w.ms, d.w.rows, d.w.ts, d.w.evs ++ [d.e], ed⟩ d.a
section
variable {P : Program} {w : World} {K : PySem.W.Frag} {mg : Str → Option Value} {base : Heap}
set_option maxHeartbeats 4000000 in
theorem ok_Weaving_add (T : Txt K mg) (C_Weaving_standing_of : Met P w K mg base 8 (He.ga K "Weaving") "standing_of" (Fn (ct_Weaving_standing_of K)) []) (C_Standing_check : Met P w K mg base 5 (He.ga K "Standing") "check" (Fn (ct_Standing_check K)) []) (C_Weaving_holders : Met P w K mg base 2 (He.ga K "Weaving") "holders" (Fn (ct_Weaving_holders K)) []) (C_Standing_take : Met P w K mg base 6 (He.ga K "Standing") "take" (Fn (ct_Standing_take K)) []) : Met P w K mg base 9 (He.ga K "Weaving") "add" (Fn (ct_Weaving_add K)) [] := by
  haveI : FldI K (He.ga K "Shape") "_listed" := ⟨T.c_Shape, T.n_Shape__listed⟩
  haveI : FldI K (He.ga K "Shape") "_marks" := ⟨T.c_Shape, T.n_Shape__marks⟩
  haveI : FldI K (He.ga K "Web") "shape" := ⟨T.c_Web, T.n_Web_shape⟩
  haveI : FldI K (He.ga K "Web") "_rows" := ⟨T.c_Web, T.n_Web__rows⟩
  haveI : FldI K (He.ga K "Web") "_numbers" := ⟨T.c_Web, T.n_Web__numbers⟩
  haveI : FldI K (He.ga K "Standing") "web" := ⟨T.c_Standing, T.n_Standing_web⟩
  haveI : FldI K (He.ga K "Standing") "_modes" := ⟨T.c_Standing, T.n_Standing__modes⟩
  haveI : FldI K (He.ga K "Standing") "_holds" := ⟨T.c_Standing, T.n_Standing__holds⟩
  haveI : FldI K (He.ga K "Standing") "_loose" := ⟨T.c_Standing, T.n_Standing__loose⟩
  haveI : FldI K (He.ga K "Weaving") "web" := ⟨T.c_Weaving, T.n_Weaving_web⟩
  haveI : FldI K (He.ga K "Weaving") "_events" := ⟨T.c_Weaving, T.n_Weaving__events⟩
  haveI : FldI K (He.ga K "Weaving") "_standings" := ⟨T.c_Weaving, T.n_Weaving__standings⟩
  haveI : FldI K (He.ga K "Weaving") "_lockers" := ⟨T.c_Weaving, T.n_Weaving__lockers⟩
  haveI : FldI K (He.ga K "Weaving") "_edges" := ⟨T.c_Weaving, T.n_Weaving__edges⟩
  haveI := T.v_Shape_MARKS
  haveI := T.v_Shape_PARENTS
  haveI := T.v_Web_MOST
  haveI := T.i_DEEDS
  haveI := T.i_MODES
  refine metD T.c_Weaving T.m_Weaving_add T.f_Weaving_add sc_Weaving_add (fun _ _ _ _ _ _ us hl => match us, hl with | [_, _, _], _ => rfl) (fun _ => rfl) (fun cdv A outer s H E hr => ?_)
  have hu := hu_of hr
  have hu64 := hu64_of hr
  have hu65 := hu65_of hr
  refine ⟨_, (pss_cons (ps_asg (pv 2) (pg_unp K (is := [3, 4]) (pg_tup rfl (pgs_cons (pg_name (i := 3) sc_Weaving_add.nd rfl (by first | exact Or.inl rfl | exact Or.inr rfl)) (pgs_cons (pg_name (i := 4) sc_Weaving_add.nd rfl (by first | exact Or.inl rfl | exact Or.inr rfl)) pgs_nil)))))
    (pss_cons (ps_set (i := 2) sc_Weaving_add.nd rfl (by first | exact Or.inl rfl | exact Or.inr rfl) (pe_tup (pa_cons (pv 3) (pa_cons (pv 4) pa_nil))))
    (pss_cons (ps_set (i := 5) sc_Weaving_add.nd rfl (by first | exact Or.inl rfl | exact Or.inr rfl) (pe_mt C_Weaving_standing_of hr (by decide) (pv 0) (pa_cons (pv 1) pa_nil)))
    (pss_cons (ps_expr (pe_mt C_Standing_check hr (by decide) (pv 5) (pa_cons (pv 2) pa_nil)))
    (pss_cons (ps_if (pt_cmpR (neU K hu64) (pv 3) pe_str (nomark _)) (pss_cons (ps_for PassesOwn.never rfl (piT K (pe_mt C_Weaving_holders hr (by decide) (pv 0) (pa_cons (pv 4) pa_nil))) (pg_unp K (is := [6, 7]) (pg_tup rfl (pgs_cons (pg_name (i := 6) sc_Weaving_add.nd rfl (by first | exact Or.inl rfl | exact Or.inr rfl)) (pgs_cons (pg_name (i := 7) sc_Weaving_add.nd rfl (by first | exact Or.inl rfl | exact Or.inr rfl)) pgs_nil))))
    (pss_one (ps_if (PW.pt (pw_and (pt_cmpR (neU K hu64) (pv 6) (pv 1) (nomark _)) (pw_and1 (pt_cmpR (inU K hu65) pe_str (pe_tup (pa_cons (pv 3) (pa_cons (pv 7) pa_nil))) rfl)))) pss_never pss_nil)))
    (pss_cons (ps_set (i := 8) sc_Weaving_add.nd rfl (by first | exact Or.inl rfl | exact Or.inr rfl) (pe_dget2 hu (fldU K (pv 0)) (pv 4) (pe_lst pa_nil) ⟨rfl, rfl, rfl, rfl⟩))
    (pss_cons (ps_for PassesOwn.never rfl (piL K (pv 8)) (pg_unp K (is := [9, 7]) (pg_tup rfl (pgs_cons (pg_name (i := 9) sc_Weaving_add.nd rfl (by first | exact Or.inl rfl | exact Or.inr rfl)) (pgs_cons (pg_name (i := 7) sc_Weaving_add.nd rfl (by first | exact Or.inl rfl | exact Or.inr rfl)) pgs_nil))))
    (pss_one (ps_if (pt_cmpR (inU K hu65) pe_str (pe_tup (pa_cons (pv 3) (pa_cons (pv 7) pa_nil))) rfl) (pss_one (ps_dput hu (fldU K (pv 0)) (pe_tup (pa_cons (pv 9) (pa_cons (pv 1) pa_nil))) pe_bl rfl)) pss_nil)))
    (pss_one (ps_dput hu (fldU K (pv 0)) (pv 4) (pe_op op_plus (pv 8) (pe_lst (pa_cons (pe_tup (pa_cons (pv 1) (pa_cons (pv 3) pa_nil))) pa_nil))) rfl))))) pss_nil)
    (pss_cons (ps_expr (pe_mt C_Standing_take hr (by decide) (pv 5) (pa_cons (pv 2) pa_nil)))
    (pss_cons (ps_dput hu (fldU K (pv 0)) (pv 1) (pv 5) rfl)
    (pss_one (ps_expr (pe_bm PySem.F.plainAttrs_list PySem.F.slot_list_append PySem.F.type_list_append mt_append (fldU K (pv 0)) (pa_cons (pe_tup (pa_cons (pv 1) (pa_cons (pv 2) pa_nil))) pa_nil))))))))))), ?_⟩
  rintro ⟨⟨ms, rows, ts, evs, ed⟩, ⟨x, pe, ps, pl, pd⟩, ⟨n, ⟨dd, t⟩⟩⟩ L g fr Q ⟨⟨o1, o2, o3, o4, o5⟩, o6, o7⟩ hR
  dsimp only at o1 o2 o3 o4 o5 o6 o7
  have hstd := run_std o2 (by omega) n
  have hstep : StepOk ts (stOf evs n) ⟨dd, t⟩ := legal_step o2 o6
  show Gk L [some (rA x), some (G.rI n), some (rStep ⟨dd, t⟩), none, none, none, none, none, none, none] [g] (oIn x (He.ga K "Weaving") (wvG K ⟨ms, rows, ts, evs, ed⟩ ⟨x, pe, ps, pl, pd⟩) :: oLs pe (evs.map rEv) :: oDk ps (standsKV K ms rows ts evs) :: oDk pl (lockersKV evs) :: oDt pd (edgesKV ed) :: fr) _
  walk_at "g0"
  refine k_meth rfl ?_
  walk_at "g0"
  refine k_mcall (c := ct_Weaving_standing_of K) (fr := fr) ⟨⟨ms, rows, ts, evs, ed⟩, ⟨x, pe, ps, pl, pd⟩, n⟩ rfl rfl ⟨o1, o2, o3, o4, o5⟩ ?_
  rintro ⟨y, pm, ph⟩ -
  show Gk L _ (rA y :: _) (oIn y _ _ :: oDk pm _ :: oDk ph _ :: (wvO K ⟨ms, rows, ts, evs, ed⟩ ⟨x, pe, ps, pl, pd⟩ ++ fr)) _
  walk_at "g0"
  refine k_meth rfl ?_
  walk_at "g0"
  refine k_mcall (c := ct_Standing_check K) (fr := wvO K ⟨ms, rows, ts, evs, ed⟩ ⟨x, pe, ps, pl, pd⟩ ++ fr) ⟨⟨ms, rows, ts, stOf evs n, y, pm, ph⟩, ⟨dd, t⟩⟩ rfl rfl ⟨o1, hstd, hstep⟩ ?_
  rintro - -
  walk_at "g0"
  show Gk L [some (rA x), some (G.rI n), some (rStep ⟨dd, t⟩), some (rS dd.s), some (G.rI t), some (rA y), none, none, none, none] [g] (stO K ⟨ms, rows, ts, stOf evs n, y, pm, ph⟩ ++ (wvO K ⟨ms, rows, ts, evs, ed⟩ ⟨x, pe, ps, pl, pd⟩ ++ fr)) _
  refine k_cut (T := List (Int × Int)) (fun ed' => EdOk (evs ++ [(⟨n, ⟨dd, t⟩⟩ : Ev)]) ed') (fun _ => [some (rA x), some (G.rI n), some (rStep ⟨dd, t⟩), some (rS dd.s), some (G.rI t), some (rA y), none, none, none, none]) (fun ed' => stO K ⟨ms, rows, ts, stOf evs n, y, pm, ph⟩ ++ (oIn x (He.ga K "Weaving") (wvG K ⟨ms, rows, ts, evs, ed⟩ ⟨x, pe, ps, pl, pd⟩) :: oLs pe (evs.map rEv) :: oDk ps (standsKV K ms rows ts evs) :: oDk pl (lockersKV (evs ++ [(⟨n, ⟨dd, t⟩⟩ : Ev)])) :: oDt pd (edgesKV ed') :: fr)) ?_ (fun cont => ?_)
  · intro ed' hed
    show Gk L _ [g] (oIn y _ _ :: oDk pm _ :: oDk ph _ :: (oIn x (He.ga K "Weaving") (wvG K ⟨ms, rows, ts, evs, ed⟩ ⟨x, pe, ps, pl, pd⟩) :: oLs pe (evs.map rEv) :: oDk ps (standsKV K ms rows ts evs) :: oDk pl (lockersKV (evs ++ [(⟨n, ⟨dd, t⟩⟩ : Ev)])) :: oDt pd (edgesKV ed') :: fr)) _
    walk_at "g0"
    refine k_meth rfl ?_
    walk_at "g0"
    refine k_mcall (c := ct_Standing_take K) (fr := (oIn x (He.ga K "Weaving") (wvG K ⟨ms, rows, ts, evs, ed⟩ ⟨x, pe, ps, pl, pd⟩) :: oLs pe (evs.map rEv) :: oDk ps (standsKV K ms rows ts evs) :: oDk pl (lockersKV (evs ++ [(⟨n, ⟨dd, t⟩⟩ : Ev)])) :: oDt pd (edgesKV ed') :: fr)) ⟨⟨ms, rows, ts, stOf evs n, y, pm, ph⟩, ⟨dd, t⟩⟩ rfl rfl ⟨o1, hstd, hstep⟩ ?_
    rintro - -
    have et : takeS (stOf evs n) ⟨dd, t⟩ = stOf (evs ++ [(⟨n, ⟨dd, t⟩⟩ : Ev)]) n := takeS_stOf (e := ⟨n, ⟨dd, t⟩⟩)
    conv => arg 4; dsimp only [ct_Standing_take]; rw [et]
    refine k_factStand ?_
    walk_at "st"
    walk_at "st"
    refine k_isS 5 ?_
    refine k_forget 0 ?_
    show Gk L [some (rA x), some (G.rI n), some (rStep ⟨dd, t⟩), some (rS dd.s), some (G.rI t), some (rStand K ms rows ts (stOf (evs ++ [(⟨n, ⟨dd, t⟩⟩ : Ev)]) n)), none, none, none, none] [g] (oIn x (He.ga K "Weaving") (wvG K ⟨ms, rows, ts, evs, ed⟩ ⟨x, pe, ps, pl, pd⟩) :: oLs pe (evs.map rEv) :: oDk ps (standsKV K ms rows ts evs) :: oDk pl (lockersKV (evs ++ [(⟨n, ⟨dd, t⟩⟩ : Ev)])) :: oDt pd (edgesKV ed') :: fr) _
    have hl1 : (standsKV K ms rows ts evs).length ≤ 10000 := by
      unfold standsKV; rw [kvOf_len]
      have := namesOf_len evs
      omega
    have hl2 : evs.length ≤ 10000 := by omega
    walk_at "g0"
    rw [show putKR (standsKV K ms rows ts evs) (Sum.inl n) (rStand K ms rows ts (stOf (evs ++ [(⟨n, ⟨dd, t⟩⟩ : Ev)]) n)) = standsKV K ms rows ts (evs ++ [(⟨n, ⟨dd, t⟩⟩ : Ev)]) from stands_put (e := ⟨n, ⟨dd, t⟩⟩)]
    rw [show evs.map rEv ++ [rTp [G.rI n, rStep ⟨dd, t⟩]] = (evs ++ [(⟨n, ⟨dd, t⟩⟩ : Ev)]).map rEv from by rw [List.map_append]; rfl]
    exact k_finN hR ed' hed (fun _ h => h)
  · have hs2 : (some (G.rI t) : Option R) = some (G.rI (Ev.step ⟨n, ⟨dd, t⟩⟩).thing) := rfl
    refine k_ifN (fun h => ?_) (fun h => ?_)
    · have hdd : dd ≠ .drop := fun e => h (by rw [e]; rfl)
      have hk : isLk (⟨n, ⟨dd, t⟩⟩ : Ev) = true := isLk_iff.mpr hdd
      show Gk L _ [g] (oIn y _ _ :: oDk pm _ :: oDk ph _ :: oIn x (He.ga K "Weaving") (wvG K ⟨ms, rows, ts, evs, ed⟩ ⟨x, pe, ps, pl, pd⟩) :: oLs pe (evs.map rEv) :: oDk ps (standsKV K ms rows ts evs) :: oDk pl (lockersKV evs) :: oDt pd (edgesKV ed) :: fr) _
      walk_at "g0"
      refine k_meth rfl ?_
      walk_at "g0"
      refine ga_perm (perm3 (X := [_, _, _]) (S := [_, _, _, _, _])) ?_
      refine k_mcall (c := ct_Weaving_holders K) (fr := [_, _, _] ++ fr) ⟨⟨ms, rows, ts, evs, ed⟩, ⟨x, pe, ps, pl, pd⟩, t⟩ rfl rfl ⟨⟨o1, o2, o3, o4, o5⟩, o6.thing⟩ ?_
      rintro (hs : List (Int × Deed)) ⟨(h1 : Holders evs t hs), h2⟩
      refine k_perm (perm3 (X := [_, _, _]) (S := [_, _, _, _, _])).symm ?_
      show Gk L _ (rTp (hs.map rNM) :: _) _ _
      refine k_forTu (qs := hs.map rNM) (T := Unit) (fun _ _ => True) (fun _ => [some (rA x), some (G.rI n), some (rStep ⟨dd, t⟩), some (rS dd.s), some (G.rI t), some (rA y), none, none, none, none]) (fun _ => stO K ⟨ms, rows, ts, stOf evs n, y, pm, ph⟩ ++ (wvO K ⟨ms, rows, ts, evs, ed⟩ ⟨x, pe, ps, pl, pd⟩ ++ fr)) () trivial (by walk_at "le") rfl ?_ ?_
      · rintro i q gh - N hq - hN
        obtain ⟨⟨k, m⟩, hp, rfl⟩ := map_get hq
        have hm := (h1 k m).mp (List.mem_of_getElem? hp)
        show Gk L _ (rTp [G.rI k, rS m.s] :: _) _ _
        walk_at "g0"
        refine k_and2 (fun hb => ?_) (fun hb => ?_)
        · have hne : k ≠ n := by simpa using hb
          walk_at "g0"
          have hno : ¬ (Str.ofString "own" ∈ [(Step.deed ⟨dd, t⟩).s, m.s]) := by
            show ¬ (Str.ofString "own" ∈ [dd.s, m.s])
            cases dd with
            | drop => exact absurd rfl hdd
            | own =>
              have := o6.own2 rfl k hne
              rcases hm.2 with ⟨_, q⟩ | ⟨_, q⟩
              · exact absurd q this.1
              · exact absurd q this.2
            | share =>
              have := o6.share2 rfl k hne
              rcases hm.2 with ⟨_, q⟩ | ⟨rfl, q⟩
              · exact absurd q this
              · decide
          rw [decide_eq_false hno]
          refine k_ifF ?_
          walk_at "g0"
          refine k_le (by walk_at "le") rfl (hN () ?_)
          trivial
        · refine k_ifF ?_
          walk_at "g0"
          refine k_le (by walk_at "le") rfl (hN () ?_)
          trivial
      · rintro - -
        show Gk L _ [g] (oIn y _ _ :: oDk pm _ :: oDk ph _ :: oIn x (He.ga K "Weaving") (wvG K ⟨ms, rows, ts, evs, ed⟩ ⟨x, pe, ps, pl, pd⟩) :: oLs pe (evs.map rEv) :: oDk ps (standsKV K ms rows ts evs) :: oDk pl (lockersKV evs) :: oDt pd (edgesKV ed) :: fr) _
        walk_at "g0"
        refine n_frzT ?_
        refine k_dget2k ?_
        rw [lockers_get]
        walk_at "g0"
        have hll := lksOf_len (evs := evs) (t := t)
        refine k_forL (qs := (lksOf evs t).map rNM) (T := List (Int × Int)) (fun i ed' => (∀ a b, (a, b) ∈ ed' ↔ Edge evs a b ∨ (b = n ∧ ∃ d, (a, d) ∈ (lksOf evs t).take i ∧ (d = .own ∨ dd = .own))) ∧ ed'.length ≤ ed.length + i) (fun _ => [some (rA x), some (G.rI n), some (rStep ⟨dd, t⟩), some (rS dd.s), some (G.rI t), some (rA y), none, none, some (rLs ((lksOf evs t).map rNM)), none]) (fun ed' => stO K ⟨ms, rows, ts, stOf evs n, y, pm, ph⟩ ++ (oIn x (He.ga K "Weaving") (wvG K ⟨ms, rows, ts, evs, ed⟩ ⟨x, pe, ps, pl, pd⟩) :: oLs pe (evs.map rEv) :: oDk ps (standsKV K ms rows ts evs) :: oDk pl (lockersKV evs) :: oDt pd (edgesKV ed') :: fr)) ed ⟨fun a b => by rw [o4]; simp, Nat.le_refl _⟩ (by walk_at "le") rfl ?_ ?_
        · rintro i q gh ed' N hq ⟨j1, j2⟩ hN
          obtain ⟨⟨k, m⟩, hp, rfl⟩ := map_get hq
          have hi := (List.getElem?_eq_some_iff.mp hp).1
          show Gk L _ (rTp [G.rI k, rS m.s] :: _) (oIn y _ _ :: oDk pm _ :: oDk ph _ :: oIn x (He.ga K "Weaving") (wvG K ⟨ms, rows, ts, evs, ed⟩ ⟨x, pe, ps, pl, pd⟩) :: oLs pe (evs.map rEv) :: oDk ps (standsKV K ms rows ts evs) :: oDk pl (lockersKV evs) :: oDt pd (edgesKV ed') :: fr) _
          have hl3 : (edgesKV ed').length ≤ 10000 := by
            unfold edgesKV; rw [List.length_map]
            have : 50 * evs.length ≤ 2500 := by omega
            omega
          have hmem : ∀ a d, (a, d) ∈ (lksOf evs t).take (i + 1) ↔ (a, d) ∈ (lksOf evs t).take i ∨ (a = k ∧ d = m) := fun a d => by
            rw [take_snoc hp, List.mem_append, List.mem_singleton, Prod.mk.injEq]
          walk_at "g0"
          have ow : ∀ z : Deed, (Str.ofString "own" = z.s) ↔ z = .own := fun z => by cases z <;> simp <;> decide
          refine k_ifD (fun hb => ?_) (fun hb => ?_)
          · have ho : m = .own ∨ dd = .own := by
              have hb : Str.ofString "own" ∈ [dd.s, m.s] := hb
              simp only [List.mem_cons, List.not_mem_nil, or_false, ow] at hb
              exact hb.symm
            walk_at "g0"
            rw [edges_put]
            refine k_le (by walk_at "le") rfl (hN (addE ed' (k, n)) ?_)
            refine ⟨fun a b => ?_, ?_⟩
            · rw [mem_addE, j1, Prod.mk.injEq]
              constructor
              · rintro ((h | ⟨h, d, h3, h4⟩) | ⟨rfl, rfl⟩)
                · exact .inl h
                · exact .inr ⟨h, d, (hmem a d).mpr (.inl h3), h4⟩
                · exact .inr ⟨rfl, m, (hmem a m).mpr (.inr ⟨rfl, rfl⟩), ho⟩
              · rintro (h | ⟨h, d, h3, h4⟩)
                · exact .inl (.inl h)
                · rcases (hmem a d).mp h3 with h3 | ⟨h3, _⟩
                  · exact .inl (.inr ⟨h, d, h3, h4⟩)
                  · exact .inr ⟨h3, h⟩
            · unfold addE
              split
              · omega
              · rw [List.length_append, List.length_singleton]; omega
          · have ho : ¬ (m = .own ∨ dd = .own) := fun h => by
              refine hb ?_
              show Str.ofString "own" ∈ [dd.s, m.s]
              simp only [List.mem_cons, List.not_mem_nil, or_false, ow]
              exact h.symm
            walk_at "g0"
            refine k_le (by walk_at "le") rfl (hN ed' ?_)
            refine ⟨fun a b => ?_, by omega⟩
            rw [j1]
            constructor
            · rintro (h | ⟨h, d, h3, h4⟩)
              · exact .inl h
              · exact .inr ⟨h, d, (hmem a d).mpr (.inl h3), h4⟩
            · rintro (h | ⟨h, d, h3, h4⟩)
              · exact .inl h
              · rcases (hmem a d).mp h3 with h3 | ⟨_, rfl⟩
                · exact .inr ⟨h, d, h3, h4⟩
                · exact absurd h4 ho
        · rintro ed' ⟨j1, j2⟩
          rw [List.length_map, List.take_length] at j1
          rw [List.length_map] at j2
          show Gk L _ [g] (oIn y _ _ :: oDk pm _ :: oDk ph _ :: oIn x (He.ga K "Weaving") (wvG K ⟨ms, rows, ts, evs, ed⟩ ⟨x, pe, ps, pl, pd⟩) :: oLs pe (evs.map rEv) :: oDk ps (standsKV K ms rows ts evs) :: oDk pl (lockersKV evs) :: oDt pd (edgesKV ed') :: fr) _
          have hl4 : (lockersKV evs).length ≤ 10000 := by
            unfold lockersKV; rw [kvOf_len]
            have := lthings_len evs
            omega
          refine k_nxD ?_
          walk_at "gb"
          rw [show (lksOf evs t).map rNM ++ [rTp [G.rI n, rS dd.s]] = (lksOf evs t ++ [(n, dd)]).map rNM from by rw [List.map_append]; rfl]
          rw [show putKR (lockersKV evs) (Sum.inl t) (rLs ((lksOf evs t ++ [(n, dd)]).map rNM)) = lockersKV (evs ++ [(⟨n, ⟨dd, t⟩⟩ : Ev)]) from lockers_lock (e := ⟨n, ⟨dd, t⟩⟩) hk]
          refine k_le (by walk_at "le") rfl (cont ed' ⟨fun a b => ?_, ?_⟩)
          · rw [j1]
            exact (edge_add (e := ⟨n, ⟨dd, t⟩⟩) o2 o6 hk).symm
          · rw [List.length_append, List.length_singleton]; omega
    · have hdd : dd = .drop := Deed.s_inj h
      have hk : isLk (⟨n, ⟨dd, t⟩⟩ : Ev) = false := by rw [hdd]; rfl
      walk_at "st"
      have q := cont ed ⟨fun a b => (o4 a b).trans (edge_drop hk).symm, by rw [List.length_append, List.length_singleton]; omega⟩
      rw [lockers_drop hk] at q
      exact q

end


/-! part -/
structure PartD where
  w : WvD
  b : Bool
  ns : List Int
def ct_part (K : PySem.W.Frag) : Ct where
  δ := PartD
  ε := List (Int × Int) × WvA
  ok d := WvOk d.w
  pre d := [rWv K d.w, rNs d.b d.ns]
  own d := []
  post d e := WvOk ⟨d.w.ms, d.w.rows, d.w.ts, partE d.w.evs d.ns, e.1⟩
  ret d e := rA e.2.x
  out d e := wvO K ⟨d.w.ms, d.w.rows, d.w.ts, partE d.w.evs d.ns, e.1⟩ e.2
section
variable {P : Program} {w : World} {K : PySem.W.Frag} {mg : Str → Option Value} {base : Heap}
set_option maxHeartbeats 4000000 in
theorem ok_part (T : Txt K mg) (C_Weavingdd_initdd : Mak P w K mg base 1 "Weaving" (He.ga K "Weaving") (Fn (ct_Weavingdd_initdd K)) []) (C_Weaving_add : Met P w K mg base 9 (He.ga K "Weaving") "add" (Fn (ct_Weaving_add K)) []) : Cal P w K mg base 10 "part" (Fn (ct_part K)) [] := by
  haveI : FldI K (He.ga K "Shape") "_listed" := ⟨T.c_Shape, T.n_Shape__listed⟩
  haveI : FldI K (He.ga K "Shape") "_marks" := ⟨T.c_Shape, T.n_Shape__marks⟩
  haveI : FldI K (He.ga K "Web") "shape" := ⟨T.c_Web, T.n_Web_shape⟩
  haveI : FldI K (He.ga K "Web") "_rows" := ⟨T.c_Web, T.n_Web__rows⟩
  haveI : FldI K (He.ga K "Web") "_numbers" := ⟨T.c_Web, T.n_Web__numbers⟩
  haveI : FldI K (He.ga K "Standing") "web" := ⟨T.c_Standing, T.n_Standing_web⟩
  haveI : FldI K (He.ga K "Standing") "_modes" := ⟨T.c_Standing, T.n_Standing__modes⟩
  haveI : FldI K (He.ga K "Standing") "_holds" := ⟨T.c_Standing, T.n_Standing__holds⟩
  haveI : FldI K (He.ga K "Standing") "_loose" := ⟨T.c_Standing, T.n_Standing__loose⟩
  haveI : FldI K (He.ga K "Weaving") "web" := ⟨T.c_Weaving, T.n_Weaving_web⟩
  haveI : FldI K (He.ga K "Weaving") "_events" := ⟨T.c_Weaving, T.n_Weaving__events⟩
  haveI : FldI K (He.ga K "Weaving") "_standings" := ⟨T.c_Weaving, T.n_Weaving__standings⟩
  haveI : FldI K (He.ga K "Weaving") "_lockers" := ⟨T.c_Weaving, T.n_Weaving__lockers⟩
  haveI : FldI K (He.ga K "Weaving") "_edges" := ⟨T.c_Weaving, T.n_Weaving__edges⟩
  haveI := T.v_Shape_MARKS
  haveI := T.v_Shape_PARENTS
  haveI := T.v_Web_MOST
  haveI := T.i_DEEDS
  haveI := T.i_MODES
  refine calD T.f_part T.g_part sc_part (fun _ _ _ _ _ _ us hl => match us, hl with | [_, _], _ => rfl) (fun _ => rfl) (fun cdv A outer s H E hr => ?_)
  have hu := hu_of hr
  have hu64 := hu64_of hr
  have hu65 := hu65_of hr
  refine ⟨_, (pss_cons (ps_set (i := 2) sc_part.nd rfl (by first | exact Or.inl rfl | exact Or.inr rfl) (pe_mk C_Weavingdd_initdd hr (by decide) (by rfl) (pa_cons (fldU K (pv 0)) pa_nil)))
    (pss_cons (ps_for PassesOwn.never rfl (pi_own K (iterm_Weaving T) hr (by decide) (pv 0)) (pg_unp K (is := [3, 4]) (pg_tup rfl (pgs_cons (pg_name (i := 3) sc_part.nd rfl (by first | exact Or.inl rfl | exact Or.inr rfl)) (pgs_cons (pg_name (i := 4) sc_part.nd rfl (by first | exact Or.inl rfl | exact Or.inr rfl)) pgs_nil))))
    (pss_one (ps_if (pt_cmpR (inU K hu65) (pv 3) (pv 1) rfl) (pss_one (ps_expr (pe_mt C_Weaving_add hr (by decide) (pv 2) (pa_cons (pv 3) (pa_cons (pv 4) pa_nil))))) pss_nil)))
    (pss_one (ps_ret (pv 2))))), ?_⟩
  rintro ⟨⟨ms, rows, ts, evs, ed⟩, b, ns⟩ L g fr Q o hR
  have o : WvOk ⟨ms, rows, ts, evs, ed⟩ := o
  obtain ⟨o1, o2, o3, o4, o5⟩ := o
  dsimp only at o1 o2 o3 o4 o5
  show Gk L [some (rWv K ⟨ms, rows, ts, evs, ed⟩), some (rNs b ns), none, none, none] [g] fr _
  walk_at "g0"
  refine k_make (c := ct_Weavingdd_initdd K) (fr := fr) (fun x => (x, ms, rows, ts)) (fun _ => rfl) (fun _ => rfl) (fun _ => trivial) (fun _ _ => rfl) ?_
  rintro x ⟨pe, ps, pl, pd⟩ -
  show Gk L _ (rA x :: _) (wvO K ⟨ms, rows, ts, partE (evs.take 0) ns, []⟩ ⟨x, pe, ps, pl, pd⟩ ++ fr) _
  walk_at "g0"
  refine k_forIn (qs := evs.map rEv) (qe := rLs (evs.map rEv)) rfl (T := Nat × List (Int × Int)) (fun i s => s.1 = i ∧ EdOk (partE (evs.take i) ns) s.2) (fun _ => [some (rWv K ⟨ms, rows, ts, evs, ed⟩), some (rNs b ns), some (rA x), none, none]) (fun s => wvO K ⟨ms, rows, ts, partE (evs.take s.1) ns, s.2⟩ ⟨x, pe, ps, pl, pd⟩ ++ fr) (0, []) ⟨rfl, fun a b => by simp [partE, Edge_nil], by simp [partE]⟩ (by walk_at "le") rfl ?_ ?_
  · rintro i q gh ⟨j, ed1⟩ N hq ⟨hj, hed⟩ hN
    have hj : j = i := hj
    subst hj
    obtain ⟨⟨n, ⟨dd, t⟩⟩, he, rfl⟩ := map_get hq
    have htk := take_snoc he
    show Gk L _ (rTp [G.rI n, rTp [rS dd.s, G.rI t]] :: _) _ _
    walk_at "g0"
    refine k_inNs ?_
    walk_at "g0"
    have hp := run_pre o2 he
    have hlt := (List.getElem?_eq_some_iff.mp he).1
    have hpl := partE_len (evs := evs.take j) (ns := ns)
    rw [List.length_take] at hpl
    have hed : EdOk (partE (evs.take j) ns) ed1 := hed
    refine k_ifD (fun hn => ?_) (fun hn => ?_)
    · show Gk L _ _ (oIn x (He.ga K "Weaving") (wvG K ⟨ms, rows, ts, partE (evs.take j) ns, ed1⟩ ⟨x, pe, ps, pl, pd⟩) :: oLs pe ((partE (evs.take j) ns).map rEv) :: oDk ps (standsKV K ms rows ts (partE (evs.take j) ns)) :: oDk pl (lockersKV (partE (evs.take j) ns)) :: oDt pd (edgesKV ed1) :: fr) _
      walk_at "g0"
      refine k_meth rfl ?_
      walk_at "g0"
      refine k_mcall (c := ct_Weaving_add K) (fr := fr) ⟨⟨ms, rows, ts, partE (evs.take j) ns, ed1⟩, ⟨x, pe, ps, pl, pd⟩, ⟨n, ⟨dd, t⟩⟩⟩ rfl rfl ⟨⟨o1, part_run hp.1, by show (partE (evs.take j) ns).length ≤ 50; omega, hed⟩, part_legal hp.2 hn, by show (partE (evs.take j) ns).length < 50; omega⟩ ?_
      rintro (ed2 : List (Int × Int)) (hed2 : EdOk (partE (evs.take j) ns ++ [(⟨n, ⟨dd, t⟩⟩ : Ev)]) ed2)
      have ee : partE (evs.take (j + 1)) ns = partE (evs.take j) ns ++ [(⟨n, ⟨dd, t⟩⟩ : Ev)] := by rw [htk, partE_snoc, if_pos hn]
      conv => arg 4; dsimp only [ct_Weaving_add]; rw [← ee]
      rw [← ee] at hed2
      walk_at "g0"
      refine k_le (by walk_at "le") rfl (hN (j + 1, ed2) ?_)
      exact ⟨rfl, hed2⟩
    · have ee : partE (evs.take (j + 1)) ns = partE (evs.take j) ns := by rw [htk, partE_snoc, if_neg hn]
      walk_at "g0"
      dsimp only
      rw [← ee] at hed ⊢
      refine k_le (by walk_at "le") rfl (hN (j + 1, ed1) ?_)
      exact ⟨rfl, hed⟩
  · rintro ⟨j, ed1⟩ ⟨hj, hed⟩
    have hj : j = evs.length := by rw [← List.length_map (f := rEv)]; exact hj
    subst hj
    have hed : EdOk (partE (evs.take (evs.map rEv).length) ns) ed1 := hed
    rw [List.length_map, List.take_length] at hed
    dsimp only
    rw [List.take_length]
    walk_at "g0"
    refine k_fin hR (ed1, ⟨x, pe, ps, pl, pd⟩) ⟨o1, part_run o2, Nat.le_trans partE_len o3, hed⟩ (fun _ h => h)

end


/-! _law_web -/
structure LwbD where
  ms : List Str
  rows : List Row
  ts : List Thing
structure LwbOk (d : LwbD) : Prop where
  rows : RowsOk d.ms d.rows
  things : ThingsOk d.rows d.ts
  len : d.ts.length ≤ 50 ∧ d.rows.length ≤ 6
def ct__law_web (K : PySem.W.Frag) : Ct where
  δ := LwbD
  ε := Unit
  ok := LwbOk
  pre d := [rShape K d.ms d.rows, rLs (d.ts.map rThing)]
  own d := []
  post d e := True
  ret d e := rWeb K d.ms d.rows d.ts
  out d e := []
section
variable {P : Program} {w : World} {K : PySem.W.Frag} {mg : Str → Option Value} {base : Heap}
set_option maxHeartbeats 4000000 in
theorem ok__law_web (T : Txt K mg) (C_Webdd_initdd : Mak P w K mg base 1 "Web" (He.ga K "Web") (Fn (ct_Webdd_initdd K)) []) (C_Web_put : MetS P w K mg base 6 (He.ga K "Web") "put" (Fn (starCt (ct_Web_put K) (fro_Web_put K) rest_Web_put))) : Cal P w K mg base 7 "_law_web" (Fn (ct__law_web K)) [] := by
  haveI : FldI K (He.ga K "Shape") "_listed" := ⟨T.c_Shape, T.n_Shape__listed⟩
  haveI : FldI K (He.ga K "Shape") "_marks" := ⟨T.c_Shape, T.n_Shape__marks⟩
  haveI : FldI K (He.ga K "Web") "shape" := ⟨T.c_Web, T.n_Web_shape⟩
  haveI : FldI K (He.ga K "Web") "_rows" := ⟨T.c_Web, T.n_Web__rows⟩
  haveI : FldI K (He.ga K "Web") "_numbers" := ⟨T.c_Web, T.n_Web__numbers⟩
  haveI : FldI K (He.ga K "Standing") "web" := ⟨T.c_Standing, T.n_Standing_web⟩
  haveI : FldI K (He.ga K "Standing") "_modes" := ⟨T.c_Standing, T.n_Standing__modes⟩
  haveI : FldI K (He.ga K "Standing") "_holds" := ⟨T.c_Standing, T.n_Standing__holds⟩
  haveI : FldI K (He.ga K "Standing") "_loose" := ⟨T.c_Standing, T.n_Standing__loose⟩
  haveI : FldI K (He.ga K "Weaving") "web" := ⟨T.c_Weaving, T.n_Weaving_web⟩
  haveI : FldI K (He.ga K "Weaving") "_events" := ⟨T.c_Weaving, T.n_Weaving__events⟩
  haveI : FldI K (He.ga K "Weaving") "_standings" := ⟨T.c_Weaving, T.n_Weaving__standings⟩
  haveI : FldI K (He.ga K "Weaving") "_lockers" := ⟨T.c_Weaving, T.n_Weaving__lockers⟩
  haveI : FldI K (He.ga K "Weaving") "_edges" := ⟨T.c_Weaving, T.n_Weaving__edges⟩
  haveI := T.v_Shape_MARKS
  haveI := T.v_Shape_PARENTS
  haveI := T.v_Web_MOST
  haveI := T.i_DEEDS
  haveI := T.i_MODES
  refine calD T.f__law_web T.g__law_web sc__law_web (fun _ _ _ _ _ _ us hl => match us, hl with | [_, _], _ => rfl) (fun _ => rfl) (fun cdv A outer s H E hr => ?_)
  have hu := hu_of hr
  have hu64 := hu64_of hr
  have hu65 := hu65_of hr
  refine ⟨_, (pss_cons (ps_set (i := 2) sc__law_web.nd rfl (by first | exact Or.inl rfl | exact Or.inr rfl) (pe_mk C_Webdd_initdd hr (by decide) (by rfl) (pa_cons (pv 0) pa_nil)))
    (pss_cons (ps_for PassesOwn.never rfl (piL K (pv 1)) (pg_name (i := 3) sc__law_web.nd rfl (by first | exact Or.inl rfl | exact Or.inr rfl))
    (pss_cons (ps_set (i := 4) sc__law_web.nd rfl (by first | exact Or.inl rfl | exact Or.inr rfl) (pe_ix (ixU K) (pv 3) pe_int (fun _ _ => rfl)))
    (pss_one (ps_if (pt_cmpR (eqU K hu64) (pe_callB (lenU K) (by rfl) T.z_len PySem.boot_len (pa_cons (pv 4) pa_nil)) pe_int (nomark _)) (pss_one (ps_expr (pe_mtS C_Web_put hr (by decide) (pv 2) (pa_cons (pe_ix (ixU K) (pv 3) pe_int (fun _ _ => rfl)) pa_nil)))) (pss_one (ps_if (pt_cmpR (eqU K hu64) (pe_callB (lenU K) (by rfl) T.z_len PySem.boot_len (pa_cons (pv 4) pa_nil)) pe_int (nomark _)) (pss_one (ps_expr (pe_mtS C_Web_put hr (by decide) (pv 2) (pa_cons (pe_ix (ixU K) (pv 3) pe_int (fun _ _ => rfl)) (pa_cons (pe_ix (ixU K) (pv 4) pe_int (fun _ _ => rfl)) pa_nil))))) (pss_one (ps_expr (pe_mtS C_Web_put hr (by decide) (pv 2) (pa_cons (pe_ix (ixU K) (pv 3) pe_int (fun _ _ => rfl)) (pa_cons (pe_ix (ixU K) (pv 4) pe_int (fun _ _ => rfl)) (pa_cons (pe_ix (ixU K) (pv 4) pe_int (fun _ _ => rfl)) pa_nil))))))))))))
    (pss_one (ps_ret (pv 2))))), ?_⟩
  rintro ⟨ms, rows, ts⟩ L g fr Q ⟨o1, o2, o3, o4⟩ hR
  dsimp only at o1 o2 o3 o4
  show Gk L [some (rShape K ms rows), some (rLs (ts.map rThing)), none, none, none] [g] fr _
  walk_at "g0"
  refine k_make (c := ct_Webdd_initdd K) (fr := fr) (fun x => (x, ms, rows)) (fun _ => rfl) (fun _ => rfl) (fun _ => o1) (fun _ _ => rfl) ?_
  rintro x ⟨pr, pn⟩ -
  show Gk L _ (rA x :: _) (webO K ⟨ms, rows, ts.take 0, false, x, pr, pn⟩ ++ fr) _
  walk_at "g0"
  refine k_forL (qs := ts.map rThing) (T := Nat) (fun i s => s = i) (fun _ => [some (rShape K ms rows), some (rLs (ts.map rThing)), some (rA x), none, none]) (fun i => webO K ⟨ms, rows, ts.take i, false, x, pr, pn⟩ ++ fr) 0 rfl (by walk_at "le") rfl ?_ ?_
  · rintro i q gh j N hq rfl hN
    obtain ⟨⟨mk, ps, sh⟩, ht, rfl⟩ := map_get hq
    have htk := take_snoc ht
    have hlt := (List.getElem?_eq_some_iff.mp ht).1
    obtain ⟨⟨r, r1, r2, r3, r4, r5⟩, r6⟩ := o2 j _ ht
    dsimp only at r2 r3 r4 r5 r6
    have hlj : (ts.take j).length = j := by rw [List.length_take]; omega
    have hmost := (o1.num r r1).2.2.2.1
    have hweb : WebOk ⟨ms, rows, ts.take j, false, x, pr, pn⟩ := ⟨o1, o2.take j, by show (ts.take j).length ≤ 100; omega, o4⟩
    have hok : PutOk ⟨⟨ms, rows, ts.take j, false, x, pr, pn⟩, r, ps⟩ := ⟨⟨hweb, rfl, r4, r6, by show ps.length ≤ 100; omega, fun p hp => by
      obtain ⟨z1, v, z2, z3⟩ := r5 p hp
      refine ⟨⟨z1.1, by show p < ((ts.take j).length : Int); omega⟩, ?_⟩
      show ((ts.take j).getD p.toNat default).mark ∈ r.parents
      rw [List.getD_eq_getElem?_getD, List.getElem?_take, if_pos (by omega), z2]; exact z3⟩, r1⟩
    show Gk L _ _ (oIn x (He.ga K "Web") (webG K ms rows pr pn) :: oLs pr ((ts.take j).map rWRow) :: oLs pn ((nums (ts.take j).length).map G.rI) :: fr) _
    walk_at "g0"
    have hput : putThing ⟨⟨ms, rows, ts.take j, false, x, pr, pn⟩, r, ps⟩ = ⟨mk, ps, sh⟩ := by unfold putThing; rw [r2, r3]
    have fin : ∀ {rs : List (Option R)} {st : List R} {K' : KK}, Gk L rs (G.rI (ts.take j).length :: st) (webO K ⟨ms, rows, ts.take (j + 1), false, x, pr, pn⟩ ++ fr) K' → GA L rs (rS mk :: ps.map G.rI) (rA x :: st) (oIn x (He.ga K "Web") (webG K ms rows pr pn) :: oLs pr ((ts.take j).map rWRow) :: oLs pn ((nums (ts.take j).length).map G.rI) :: fr) (mcallk (Fn (starCt (ct_Web_put K) (fro_Web_put K) rest_Web_put)) [] C8.E0 K') := fun {rs st K'} h => by
      refine k_mcall (c := starCt (ct_Web_put K) (fro_Web_put K) rest_Web_put) (fr := fr) ⟨⟨ms, rows, ts.take j, false, x, pr, pn⟩, r, ps⟩ rfl (by show _ = [rA x, rS r.mark] ++ ps.map G.rI; rw [r2]; rfl) hok ?_
      rintro - -
      have e : webO K { (⟨ms, rows, ts.take j, false, x, pr, pn⟩ : WebD) with ts := ts.take j ++ [putThing ⟨⟨ms, rows, ts.take j, false, x, pr, pn⟩, r, ps⟩] } = webO K ⟨ms, rows, ts.take (j + 1), false, x, pr, pn⟩ := by
        rw [hput, htk]
      show Gk L rs (G.rI (ts.take j).length :: st) (webO K { (⟨ms, rows, ts.take j, false, x, pr, pn⟩ : WebD) with ts := ts.take j ++ [putThing ⟨⟨ms, rows, ts.take j, false, x, pr, pn⟩, r, ps⟩] } ++ fr) K'
      rw [e]
      exact h
    match ps, (by have := r4.2; omega : ps.length ≤ 2) with
    | [], _ =>
      refine k_ifT ?_
      walk_at "g0"
      refine k_meth rfl ?_
      walk_at "g0"
      refine fin ?_
      walk_at "g0"
      refine k_le (by walk_at "le") rfl (hN (j + 1) ?_)
      rfl
    | [a], _ =>
      refine k_ifF ?_
      walk_at "g0"
      refine k_ifT ?_
      walk_at "g0"
      refine k_meth rfl ?_
      walk_at "g0"
      refine fin ?_
      walk_at "g0"
      refine k_le (by walk_at "le") rfl (hN (j + 1) ?_)
      rfl
    | [a, b], _ =>
      refine k_ifF ?_
      walk_at "g0"
      refine k_ifF ?_
      walk_at "g0"
      refine k_meth rfl ?_
      walk_at "g0"
      refine fin ?_
      walk_at "g0"
      refine k_le (by walk_at "le") rfl (hN (j + 1) ?_)
      rfl
  · rintro j rfl
    rw [List.length_map, List.take_length]
    walk_at "g0"
    show Gk L _ (rA x :: _) (oIn x (He.ga K "Web") (webG K ms rows pr pn) :: oLs pr (ts.map rWRow) :: oLs pn ((nums ts.length).map G.rI) :: fr) _
    refine k_factWeb ?_
    refine k_is ?_
    refine k_forget 0 ?_
    exact k_fin hR () trivial (fun _ h => h)

end


/-! _law_weaving -/
structure LwvD where
  ms : List Str
  rows : List Row
  ts : List Thing
  evs : List Ev
structure LwvOk (d : LwvD) : Prop where
  web : WebOk ⟨d.ms, d.rows, d.ts, true, 0, 0, 0⟩
  run : Run d.ts d.evs
  len : d.evs.length ≤ 50
def ct__law_weaving (K : PySem.W.Frag) : Ct where
  δ := LwvD
  ε := List (Int × Int)
  ok := LwvOk
  pre d := [rWeb K d.ms d.rows d.ts, rLs (d.evs.map rEv)]
  own d := []
  post d e := WvOk ⟨d.ms, d.rows, d.ts, d.evs, e⟩
  ret d e := rWv K ⟨d.ms, d.rows, d.ts, d.evs, e⟩
  out d e := []
section
variable {P : Program} {w : World} {K : PySem.W.Frag} {mg : Str → Option Value} {base : Heap}
set_option maxHeartbeats 4000000 in
theorem ok__law_weaving (T : Txt K mg) (C_Weavingdd_initdd : Mak P w K mg base 1 "Weaving" (He.ga K "Weaving") (Fn (ct_Weavingdd_initdd K)) []) (C_Weaving_add : Met P w K mg base 9 (He.ga K "Weaving") "add" (Fn (ct_Weaving_add K)) []) : Cal P w K mg base 10 "_law_weaving" (Fn (ct__law_weaving K)) [] := by
  haveI : FldI K (He.ga K "Shape") "_listed" := ⟨T.c_Shape, T.n_Shape__listed⟩
  haveI : FldI K (He.ga K "Shape") "_marks" := ⟨T.c_Shape, T.n_Shape__marks⟩
  haveI : FldI K (He.ga K "Web") "shape" := ⟨T.c_Web, T.n_Web_shape⟩
  haveI : FldI K (He.ga K "Web") "_rows" := ⟨T.c_Web, T.n_Web__rows⟩
  haveI : FldI K (He.ga K "Web") "_numbers" := ⟨T.c_Web, T.n_Web__numbers⟩
  haveI : FldI K (He.ga K "Standing") "web" := ⟨T.c_Standing, T.n_Standing_web⟩
  haveI : FldI K (He.ga K "Standing") "_modes" := ⟨T.c_Standing, T.n_Standing__modes⟩
  haveI : FldI K (He.ga K "Standing") "_holds" := ⟨T.c_Standing, T.n_Standing__holds⟩
  haveI : FldI K (He.ga K "Standing") "_loose" := ⟨T.c_Standing, T.n_Standing__loose⟩
  haveI : FldI K (He.ga K "Weaving") "web" := ⟨T.c_Weaving, T.n_Weaving_web⟩
  haveI : FldI K (He.ga K "Weaving") "_events" := ⟨T.c_Weaving, T.n_Weaving__events⟩
  haveI : FldI K (He.ga K "Weaving") "_standings" := ⟨T.c_Weaving, T.n_Weaving__standings⟩
  haveI : FldI K (He.ga K "Weaving") "_lockers" := ⟨T.c_Weaving, T.n_Weaving__lockers⟩
  haveI : FldI K (He.ga K "Weaving") "_edges" := ⟨T.c_Weaving, T.n_Weaving__edges⟩
  haveI := T.v_Shape_MARKS
  haveI := T.v_Shape_PARENTS
  haveI := T.v_Web_MOST
  haveI := T.i_DEEDS
  haveI := T.i_MODES
  refine calD T.f__law_weaving T.g__law_weaving sc__law_weaving (fun _ _ _ _ _ _ us hl => match us, hl with | [_, _], _ => rfl) (fun _ => rfl) (fun cdv A outer s H E hr => ?_)
  have hu := hu_of hr
  have hu64 := hu64_of hr
  have hu65 := hu65_of hr
  refine ⟨_, (pss_cons (ps_set (i := 2) sc__law_weaving.nd rfl (by first | exact Or.inl rfl | exact Or.inr rfl) (pe_mk C_Weavingdd_initdd hr (by decide) (by rfl) (pa_cons (pv 0) pa_nil)))
    (pss_cons (ps_for PassesOwn.never rfl (piL K (pv 1)) (pg_name (i := 3) sc__law_weaving.nd rfl (by first | exact Or.inl rfl | exact Or.inr rfl))
    (pss_one (ps_expr (pe_mt C_Weaving_add hr (by decide) (pv 2) (pa_cons (pe_ix (ixU K) (pv 3) pe_int (fun _ _ => rfl)) (pa_cons (pe_ix (ixU K) (pv 3) pe_int (fun _ _ => rfl)) pa_nil))))))
    (pss_one (ps_ret (pv 2))))), ?_⟩
  rintro ⟨ms, rows, ts, evs⟩ L g fr Q ⟨o1, o2, o3⟩ hR
  dsimp only at o1 o2 o3
  show Gk L [some (rWeb K ms rows ts), some (rLs (evs.map rEv)), none, none] [g] fr _
  walk_at "g0"
  refine k_make (c := ct_Weavingdd_initdd K) (fr := fr) (fun x => (x, ms, rows, ts)) (fun _ => rfl) (fun _ => rfl) (fun _ => trivial) (fun _ _ => rfl) ?_
  rintro x ⟨pe, ps, pl, pd⟩ -
  show Gk L _ (rA x :: _) (wvO K ⟨ms, rows, ts, evs.take 0, []⟩ ⟨x, pe, ps, pl, pd⟩ ++ fr) _
  walk_at "g0"
  refine k_forL (qs := evs.map rEv) (T := Nat × List (Int × Int)) (fun i s => s.1 = i ∧ EdOk (evs.take i) s.2) (fun _ => [some (rWeb K ms rows ts), some (rLs (evs.map rEv)), some (rA x), none]) (fun s => wvO K ⟨ms, rows, ts, evs.take s.1, s.2⟩ ⟨x, pe, ps, pl, pd⟩ ++ fr) (0, []) ⟨rfl, fun a b => by simp [Edge_nil], by simp⟩ (by walk_at "le") rfl ?_ ?_
  · rintro i q gh ⟨j, ed1⟩ N hq ⟨hj, hed⟩ hN
    have hj : j = i := hj
    subst hj
    have hed : EdOk (evs.take j) ed1 := hed
    obtain ⟨⟨n, ⟨dd, t⟩⟩, he, rfl⟩ := map_get hq
    have htk := take_snoc he
    have hp := run_pre o2 he
    have hlt := (List.getElem?_eq_some_iff.mp he).1
    show Gk L _ (rTp [G.rI n, rTp [rS dd.s, G.rI t]] :: _) (oIn x (He.ga K "Weaving") (wvG K ⟨ms, rows, ts, evs.take j, ed1⟩ ⟨x, pe, ps, pl, pd⟩) :: oLs pe ((evs.take j).map rEv) :: oDk ps (standsKV K ms rows ts (evs.take j)) :: oDk pl (lockersKV (evs.take j)) :: oDt pd (edgesKV ed1) :: fr) _
    walk_at "g0"
    refine k_meth rfl ?_
    walk_at "g0"
    refine k_mcall (c := ct_Weaving_add K) (fr := fr) ⟨⟨ms, rows, ts, evs.take j, ed1⟩, ⟨x, pe, ps, pl, pd⟩, ⟨n, ⟨dd, t⟩⟩⟩ rfl rfl ⟨⟨o1, hp.1, by show (evs.take j).length ≤ 50; rw [List.length_take]; omega, hed⟩, hp.2, by show (evs.take j).length < 50; rw [List.length_take]; omega⟩ ?_
    rintro (ed2 : List (Int × Int)) (hed2 : EdOk (evs.take j ++ [(⟨n, ⟨dd, t⟩⟩ : Ev)]) ed2)
    conv => arg 4; dsimp only [ct_Weaving_add]; rw [← htk]
    rw [← htk] at hed2
    walk_at "g0"
    refine k_le (by walk_at "le") rfl (hN (j + 1, ed2) ?_)
    exact ⟨rfl, hed2⟩
  · rintro ⟨j, ed1⟩ ⟨hj, hed⟩
    have hj : j = evs.length := by rw [← List.length_map (f := rEv)]; exact hj
    subst hj
    have hed : EdOk (evs.take (evs.map rEv).length) ed1 := hed
    rw [List.length_map, List.take_length] at hed
    dsimp only
    rw [List.take_length]
    walk_at "g0"
    refine k_factWv ?_
    refine k_is ?_
    refine k_forget 0 ?_
    exact k_fin hR ed1 ⟨o1, o2, o3, hed⟩ (fun _ h => h)

end


/-! _law_part_good -/
structure LpgD where
  w : WvD
  ns : List Int
structure LpgOk (d : LpgD) : Prop where
  w : WvOk d.w
  nd : d.ns.Nodup
  len : d.ns.length ≤ 20
def ct__law_part_good (K : PySem.W.Frag) : Ct where
  δ := LpgD
  ε := Unit
  ok := LpgOk
  pre d := [rWv K d.w, rWeb K d.w.ms d.w.rows d.w.ts, rLs (d.w.evs.map rEv), rLs (d.ns.map G.rI)]
  own d := []
  post d e := True
  ret d _ := rB true
  out d _ := []
section
variable {P : Program} {w : World} {K : PySem.W.Frag} {mg : Str → Option Value} {base : Heap}
set_option maxHeartbeats 4000000 in
theorem ok__law_part_good (T : Txt K mg) (C_part : Cal P w K mg base 10 "part" (Fn (ct_part K)) []) (C_Webdd_eqdd : Met P w K mg base 2 (He.ga K "Web") "__eq__" (Fn (ct_Webdd_eqdd K)) []) (C__law_same : Cal P w K mg base 7 "_law_same" (Fn (ct__law_same K)) []) (C__law_ascending : Cal P w K mg base 2 "_law_ascending" (Fn ct__law_ascending) []) (C_Weaving_edges : MetG P w K mg base 2 (He.ga K "Weaving") "edges" (FnG (ct_Weaving_edges K) qs_Weaving_edges)) : Cal P w K mg base 11 "_law_part_good" (Fn (ct__law_part_good K)) [] := by
  haveI : FldI K (He.ga K "Shape") "_listed" := ⟨T.c_Shape, T.n_Shape__listed⟩
  haveI : FldI K (He.ga K "Shape") "_marks" := ⟨T.c_Shape, T.n_Shape__marks⟩
  haveI : FldI K (He.ga K "Web") "shape" := ⟨T.c_Web, T.n_Web_shape⟩
  haveI : FldI K (He.ga K "Web") "_rows" := ⟨T.c_Web, T.n_Web__rows⟩
  haveI : FldI K (He.ga K "Web") "_numbers" := ⟨T.c_Web, T.n_Web__numbers⟩
  haveI : FldI K (He.ga K "Standing") "web" := ⟨T.c_Standing, T.n_Standing_web⟩
  haveI : FldI K (He.ga K "Standing") "_modes" := ⟨T.c_Standing, T.n_Standing__modes⟩
  haveI : FldI K (He.ga K "Standing") "_holds" := ⟨T.c_Standing, T.n_Standing__holds⟩
  haveI : FldI K (He.ga K "Standing") "_loose" := ⟨T.c_Standing, T.n_Standing__loose⟩
  haveI : FldI K (He.ga K "Weaving") "web" := ⟨T.c_Weaving, T.n_Weaving_web⟩
  haveI : FldI K (He.ga K "Weaving") "_events" := ⟨T.c_Weaving, T.n_Weaving__events⟩
  haveI : FldI K (He.ga K "Weaving") "_standings" := ⟨T.c_Weaving, T.n_Weaving__standings⟩
  haveI : FldI K (He.ga K "Weaving") "_lockers" := ⟨T.c_Weaving, T.n_Weaving__lockers⟩
  haveI : FldI K (He.ga K "Weaving") "_edges" := ⟨T.c_Weaving, T.n_Weaving__edges⟩
  haveI := T.v_Shape_MARKS
  haveI := T.v_Shape_PARENTS
  haveI := T.v_Web_MOST
  haveI := T.i_DEEDS
  haveI := T.i_MODES
  refine calD T.f__law_part_good T.g__law_part_good sc__law_part_good (fun _ _ _ _ _ _ us hl => match us, hl with | [_, _, _, _], _ => rfl) (fun _ => rfl) (fun cdv A outer s H E hr => ?_)
  have hu := hu_of hr
  have hu64 := hu64_of hr
  have hu65 := hu65_of hr
  refine ⟨_, (pss_cons (ps_set (i := 4) sc__law_part_good.nd rfl (by first | exact Or.inl rfl | exact Or.inr rfl) (pe_c C_part hr (by decide) (by rfl) (pa_cons (pv 0) (pa_cons (pv 3) pa_nil))))
    (pss_cons (ps_setLc (i := 5) (own := [("_law_event", 6)]) rfl sc__law_part_good.nd rfl rfl (sw_true rfl rfl rfl (by decide +kernel)) (piL K (pv 2)) (blkOk_by (own := [("_law_event", 6)]) (N := N__law_part_good) (sc := (defScope s__law_part_good)) (by decide +kernel)) (fun _ _ _ _ _ => (pg_name (i := 6) sc__law_part_good.nd rfl (by first | exact Or.inl rfl | exact Or.inr rfl))) (fun _ _ _ _ _ => pts_one (pt_cmpR (inU K hu65) (pe_ix (ixU K) (pv 6) pe_int (fun _ _ => rfl)) (pv 3) rfl)) (fun _ _ _ _ _ => (pv 6)))
    (pss_cons (ps_if (PW.pt (pw_or (pt_not (pt_val (pe_c C__law_same hr (by decide) (by rfl) (pa_cons (pe_callTy (listI K (iterm_Weaving T) (lenm_Weaving T) rfl hr (by decide)) (by rfl) T.z_list (by decide +kernel) (pa_cons (pv 4) pa_nil)) (pa_cons (pv 5) pa_nil))))) (pw_or1 (pt_not (pt_cmpR (op_eqI C_Webdd_eqdd hr (by decide)) (fldU K (pv 4)) (pv 1) (nomark _)))))) (pss_one (ps_ret pe_bl)) pss_nil)
    (pss_one (ps_ret (pe_c C__law_same hr (by decide) (by rfl) (pa_cons (pe_listGm C_Weaving_edges hr (by decide) (by rfl) T.z_list (pv 4)) (pa_cons (pe_c C__law_ascending hr (by decide) (by rfl) (pa_cons (pv 2) (pa_cons (pv 3) pa_nil))) pa_nil)))))))), ?_⟩
  rintro ⟨⟨ms, rows, ts, evs, ed⟩, ns⟩ L g fr Q ⟨o, o2, o3⟩ hR
  dsimp only at o o2 o3
  have hel : evs.length ≤ 50 := o.len
  show Gk L [some (rWv K ⟨ms, rows, ts, evs, ed⟩), some (rWeb K ms rows ts), some (rLs (evs.map rEv)), some (rLs (ns.map G.rI)), none, none, none] [g] fr _
  walk_at "g0"
  refine k_callF (c := ct_part K) (fr := fr) ⟨⟨ms, rows, ts, evs, ed⟩, false, ns⟩ rfl rfl o ?_
  rintro ⟨ed1, a⟩ (ow : WvOk ⟨ms, rows, ts, partE evs ns, ed1⟩)
  show Gk L _ (rA a.x :: _) (wvO K ⟨ms, rows, ts, partE evs ns, ed1⟩ a ++ fr) _
  refine k_factWv ?_
  refine k_is ?_
  refine k_forget 0 ?_
  have hpl : (partE evs ns).length ≤ 50 := ow.len
  show Gk L _ (rWv K ⟨ms, rows, ts, partE evs ns, ed1⟩ :: _) fr _
  walk_at "g0"
  refine k_lcL (w := ⟨rfl⟩) (xs := evs) (t := rEv) (fun e => decide (e.name ∈ ns)) (fun e => rEv e) _  (by omega) (fun y => gok_nm rfl (by decide)) (fun y hy gx D acc K2 h => ?_) (fun y hy hp gx D acc K1 h => ?_) (fun D => ?_)
  · walk_at "cm"
    walk_at "g0"
    exact h
  · walk_at "cm"
    walk_at "g0"
    exact h
  refine n_frzT ?_
  show Gk L _ (rLs ((partE evs ns).map rEv) :: _) fr _
  walk_at "g0"
  refine k_listI (qs := (partE evs ns).map rEv) (qe := rLs ((partE evs ns).map rEv)) rfl (by rw [List.length_map]; omega) ?_
  walk_at "g0"
  refine ga_dat2 (F := K) ?_
  refine k_callF (c := ct__law_same K) (fr := fr) (.list ((partE evs ns).map evD), .list ((partE evs ns).map evD)) rfl rfl ⟨dok_evs (by omega), dok_evs (by omega)⟩ ?_
  rintro (b1 : Bool) (hb1 : b1 = true ↔ _)
  obtain rfl : b1 = true := hb1.mpr rfl
  show Gk L _ (rB true :: _) fr _
  refine k_tb ?_
  refine k_orF ?_
  walk_at "g0"
  refine k_eqIn (c := ct_Webdd_eqdd K) (fr := fr) ⟨ms, rows, ts, ts⟩ rfl rfl ⟨o.web.rows, o.web.things, o.web.things⟩ id (fun _ _ => rfl) ?_
  rintro (b2 : Bool) (hb2 : b2 = true ↔ _)
  obtain rfl : b2 = true := hb2.mpr rfl
  show Gk L _ (rB true :: _) fr _
  refine k_tb ?_
  refine k_ifF ?_
  walk_at "g0"
  refine k_listG (c := ct_Weaving_edges K) (qs := qs_Weaving_edges) (fr := fr) rfl ⟨ms, rows, ts, partE evs ns, ed1⟩ rfl rfl ow ?_
  rintro (ns1 : List Int) (hns : Asc (partE evs ns) ns1)
  show Gk L _ (rLs (((pairsOf ns1 ns1).filter fun p => decide (p ∈ ed1)).map rPr) :: _) fr _
  have hn1 : ns1.length ≤ 50 := by have := hns.len; omega
  have hl1 : ((pairsOf ns1 ns1).filter fun p => decide (p ∈ ed1)).length ≤ 5000 := by
    refine Nat.le_trans (List.length_filter_le _ _) ?_
    rw [pairsOf_len]
    exact Nat.le_trans (Nat.mul_le_mul hn1 hn1) (by decide)
  walk_at "g0"
  refine k_callF (c := ct__law_ascending) (fr := fr) ⟨evs, ns⟩ rfl rfl ⟨hel, o3⟩ ?_
  rintro (e2 : List (Int × Int)) (he2 : AscE evs ns e2)
  have heq := edges_part o2 hns ow.ed.1 he2
  show Gk L _ (rLs (e2.map rPr) :: _) fr _
  rw [heq] at hl1 ⊢
  walk_at "g0"
  refine ga_dat2 (F := K) ?_
  refine k_callF (c := ct__law_same K) (fr := fr) (.list (e2.map prD), .list (e2.map prD)) rfl rfl ⟨dok_prs hl1, dok_prs hl1⟩ ?_
  rintro (b3 : Bool) (hb3 : b3 = true ↔ _)
  obtain rfl : b3 = true := hb3.mpr rfl
  walk_at "g0"
  exact k_fin hR () trivial (fun _ h => h)

end


/-! _law_kept -/
structure LkpD where
  w : WvD
  names : List Int
  out : List Int
structure LkpOk (d : LkpD) : Prop where
  w : WvOk d.w
  len : d.names.length ≤ 20
def ct__law_kept (K : PySem.W.Frag) : Ct where
  δ := LkpD
  ε := Bool
  ok := LkpOk
  pre d := [rWv K d.w, rLs (d.w.evs.map rEv), rLs (d.names.map G.rI), rLs (d.out.map G.rI)]
  own d := []
  post d e := e = true ↔ readsOf (partE d.w.evs (restOf d.names d.out)) = (readsOf d.w.evs).filter fun r => decide (r.name ∈ restOf d.names d.out)
  ret d e := rB e
  out d _ := []
section
variable {P : Program} {w : World} {K : PySem.W.Frag} {mg : Str → Option Value} {base : Heap}
set_option maxHeartbeats 4000000 in
theorem ok__law_kept (T : Txt K mg) (C__law_reads : Cal P w K mg base 1 "_law_reads" (Fn ct__law_reads) []) (C__law_same : Cal P w K mg base 7 "_law_same" (Fn (ct__law_same K)) []) (C_Weaving_reads : Met P w K mg base 1 (He.ga K "Weaving") "reads" (Fn (ct_Weaving_reads K)) []) (C_part : Cal P w K mg base 10 "part" (Fn (ct_part K)) []) : Cal P w K mg base 11 "_law_kept" (Fn (ct__law_kept K)) [] := by
  haveI : FldI K (He.ga K "Shape") "_listed" := ⟨T.c_Shape, T.n_Shape__listed⟩
  haveI : FldI K (He.ga K "Shape") "_marks" := ⟨T.c_Shape, T.n_Shape__marks⟩
  haveI : FldI K (He.ga K "Web") "shape" := ⟨T.c_Web, T.n_Web_shape⟩
  haveI : FldI K (He.ga K "Web") "_rows" := ⟨T.c_Web, T.n_Web__rows⟩
  haveI : FldI K (He.ga K "Web") "_numbers" := ⟨T.c_Web, T.n_Web__numbers⟩
  haveI : FldI K (He.ga K "Standing") "web" := ⟨T.c_Standing, T.n_Standing_web⟩
  haveI : FldI K (He.ga K "Standing") "_modes" := ⟨T.c_Standing, T.n_Standing__modes⟩
  haveI : FldI K (He.ga K "Standing") "_holds" := ⟨T.c_Standing, T.n_Standing__holds⟩
  haveI : FldI K (He.ga K "Standing") "_loose" := ⟨T.c_Standing, T.n_Standing__loose⟩
  haveI : FldI K (He.ga K "Weaving") "web" := ⟨T.c_Weaving, T.n_Weaving_web⟩
  haveI : FldI K (He.ga K "Weaving") "_events" := ⟨T.c_Weaving, T.n_Weaving__events⟩
  haveI : FldI K (He.ga K "Weaving") "_standings" := ⟨T.c_Weaving, T.n_Weaving__standings⟩
  haveI : FldI K (He.ga K "Weaving") "_lockers" := ⟨T.c_Weaving, T.n_Weaving__lockers⟩
  haveI : FldI K (He.ga K "Weaving") "_edges" := ⟨T.c_Weaving, T.n_Weaving__edges⟩
  haveI := T.v_Shape_MARKS
  haveI := T.v_Shape_PARENTS
  haveI := T.v_Web_MOST
  haveI := T.i_DEEDS
  haveI := T.i_MODES
  refine calD T.f__law_kept T.g__law_kept sc__law_kept (fun _ _ _ _ _ _ us hl => match us, hl with | [_, _, _, _], _ => rfl) (fun _ => rfl) (fun cdv A outer s H E hr => ?_)
  have hu := hu_of hr
  have hu64 := hu64_of hr
  have hu65 := hu65_of hr
  refine ⟨_, (pss_cons (ps_set (i := 4) sc__law_kept.nd rfl (by first | exact Or.inl rfl | exact Or.inr rfl) (pe_lc (own := [("_law_name", 6)]) rfl sc__law_kept.nd (piL K (pv 2)) (blkOk_by (own := [("_law_name", 6)]) (N := N__law_kept) (sc := (defScope s__law_kept)) (by decide +kernel)) (fun _ _ _ _ _ => (pg_name (i := 6) sc__law_kept.nd rfl (by first | exact Or.inl rfl | exact Or.inr rfl))) (fun _ _ _ _ _ => pts_one (pt_cmpR (notInU K hu65) (pv 6) (pv 3) rfl)) (fun _ _ _ _ _ => (pv 6))))
    (pss_cons (ps_setLc (i := 5) (own := [("_law_read", 7)]) rfl sc__law_kept.nd rfl rfl (sw_true rfl rfl rfl (by decide +kernel)) (piL K (pe_c C__law_reads hr (by decide) (by rfl) (pa_cons (pv 1) pa_nil))) (blkOk_by (own := [("_law_read", 7)]) (N := N__law_kept) (sc := (defScope s__law_kept)) (by decide +kernel)) (fun _ _ _ _ _ => (pg_name (i := 7) sc__law_kept.nd rfl (by first | exact Or.inl rfl | exact Or.inr rfl))) (fun _ _ _ _ _ => pts_one (pt_cmpR (inU K hu65) (pe_ix (ixU K) (pv 7) pe_int (fun _ _ => rfl)) (pv 4) rfl)) (fun _ _ _ _ _ => (pv 7)))
    (pss_one (ps_ret (pe_c C__law_same hr (by decide) (by rfl) (pa_cons (pe_callTy (lstU K) (by rfl) T.z_list (by decide +kernel) (pa_cons (pe_mt0 C_Weaving_reads hr (by decide) (pe_c C_part hr (by decide) (by rfl) (pa_cons (pv 0) (pa_cons (pv 4) pa_nil)))) pa_nil)) (pa_cons (pv 5) pa_nil))))))), ?_⟩
  rintro ⟨⟨ms, rows, ts, evs, ed⟩, names, out⟩ L g fr Q ⟨o, o2⟩ hR
  dsimp only at o o2
  have hel : evs.length ≤ 50 := o.len
  have hrl := readsOf_len evs
  show Gk L [some (rWv K ⟨ms, rows, ts, evs, ed⟩), some (rLs (evs.map rEv)), some (rLs (names.map G.rI)), some (rLs (out.map G.rI)), none, none, none, none] [g] fr _
  walk_at "g0"
  refine k_lcL (w := ⟨rfl⟩) (xs := names) (t := G.rI) (fun n => !decide (n ∈ out)) (fun n => G.rI n) _  (by omega) (fun y => gok_nm rfl (by decide)) (fun y hy gx D acc K2 h => ?_) (fun y hy hp gx D acc K1 h => ?_) (fun D => ?_)
  · walk_at "cm"
    walk_at "g0"
    exact h
  · walk_at "cm"
    walk_at "g0"
    exact h
  refine n_frzT ?_
  show Gk L _ (rLs ((restOf names out).map G.rI) :: _) fr _
  walk_at "g0"
  refine k_callF (c := ct__law_reads) (fr := fr) evs rfl rfl hel ?_
  rintro - -
  show Gk L _ (rLs ((readsOf evs).map rRd) :: _) fr _
  refine k_lcL (w := ⟨rfl⟩) (xs := readsOf evs) (t := rRd) (fun r => decide (r.name ∈ restOf names out)) (fun r => rRd r) _  (by omega) (fun y => gok_nm rfl (by decide)) (fun y hy gx D acc K2 h => ?_) (fun y hy hp gx D acc K1 h => ?_) (fun D => ?_)
  · walk_at "cm"
    walk_at "g0"
    exact h
  · walk_at "cm"
    walk_at "g0"
    exact h
  refine n_frzT ?_
  walk_at "g0"
  refine k_callF (c := ct_part K) (fr := fr) ⟨⟨ms, rows, ts, evs, ed⟩, false, restOf names out⟩ rfl rfl o ?_
  rintro ⟨ed1, a⟩ (ow : WvOk ⟨ms, rows, ts, partE evs (restOf names out), ed1⟩)
  show Gk L _ (rA a.x :: _) (wvO K ⟨ms, rows, ts, partE evs (restOf names out), ed1⟩ a ++ fr) _
  refine k_factWv ?_
  refine k_is ?_
  refine k_forget 0 ?_
  have hpl : (partE evs (restOf names out)).length ≤ 50 := ow.len
  have hpr := readsOf_len (partE evs (restOf names out))
  show Gk L _ (rWv K ⟨ms, rows, ts, partE evs (restOf names out), ed1⟩ :: _) fr _
  walk_at "g0"
  refine k_meth rfl ?_
  walk_at "g0"
  refine k_mcall (c := ct_Weaving_reads K) (fr := fr) ⟨ms, rows, ts, partE evs (restOf names out), ed1⟩ rfl rfl hpl ?_
  rintro - -
  show Gk L _ (rTp ((readsOf (partE evs (restOf names out))).map rRd) :: _) fr _
  walk_at "g0"
  refine ga_dat2 (F := K) ?_
  refine k_callF (c := ct__law_same K) (fr := fr) (.list ((readsOf (partE evs (restOf names out))).map rdD), .list (((readsOf evs).filter fun r => decide (r.name ∈ restOf names out)).map rdD)) rfl rfl ⟨dok_rds (by omega), dok_rds (Nat.le_trans (List.length_filter_le _ _) (by omega))⟩ ?_
  rintro (b3 : Bool) (hb3 : b3 = true ↔ _)
  walk_at "g0"
  refine k_fin hR b3 (hb3.trans ⟨fun h => ?_, fun h => ?_⟩) (fun _ h => h)
  · injection h with h
    exact map_inj (fun a b => rdD_inj) h
  · show PyData.list _ = PyData.list _
    rw [h]

end


/-! _law_apart -/
structure LapD where
  w : WvD
  names : List Int
  ths : List Thing
structure LapOk (d : LapD) : Prop where
  w : WvOk d.w
  len : d.names.length ≤ 20
  lt : d.w.evs.length < 50
  all : ∀ e ∈ d.w.evs, e.name ∈ d.names
  no : (50 : Int) ∉ d.names
  ths : d.ths.length = d.w.ts.length
def ct__law_apart (K : PySem.W.Frag) : Ct where
  δ := LapD
  ε := Unit
  ok := LapOk
  pre d := [rWv K d.w, rLs (d.w.evs.map rEv), rLs (d.names.map G.rI), rLs (d.ths.map rThing)]
  own d := []
  post d e := True
  ret d _ := rB true
  out d _ := []
section
variable {P : Program} {w : World} {K : PySem.W.Frag} {mg : Str → Option Value} {base : Heap}
set_option maxHeartbeats 4000000 in
theorem ok__law_apart (T : Txt K mg) (C_part : Cal P w K mg base 10 "part" (Fn (ct_part K)) []) (C_Weaving_holders : Met P w K mg base 2 (He.ga K "Weaving") "holders" (Fn (ct_Weaving_holders K)) []) (C_Weaving_add : Met P w K mg base 9 (He.ga K "Weaving") "add" (Fn (ct_Weaving_add K)) []) (C__law_same : Cal P w K mg base 7 "_law_same" (Fn (ct__law_same K)) []) (C_Weavingdd_lendd : Met P w K mg base 1 (He.ga K "Weaving") "__len__" (Fn (ct_Weavingdd_lendd K)) []) : Cal P w K mg base 11 "_law_apart" (Fn (ct__law_apart K)) [] := by
  haveI : FldI K (He.ga K "Shape") "_listed" := ⟨T.c_Shape, T.n_Shape__listed⟩
  haveI : FldI K (He.ga K "Shape") "_marks" := ⟨T.c_Shape, T.n_Shape__marks⟩
  haveI : FldI K (He.ga K "Web") "shape" := ⟨T.c_Web, T.n_Web_shape⟩
  haveI : FldI K (He.ga K "Web") "_rows" := ⟨T.c_Web, T.n_Web__rows⟩
  haveI : FldI K (He.ga K "Web") "_numbers" := ⟨T.c_Web, T.n_Web__numbers⟩
  haveI : FldI K (He.ga K "Standing") "web" := ⟨T.c_Standing, T.n_Standing_web⟩
  haveI : FldI K (He.ga K "Standing") "_modes" := ⟨T.c_Standing, T.n_Standing__modes⟩
  haveI : FldI K (He.ga K "Standing") "_holds" := ⟨T.c_Standing, T.n_Standing__holds⟩
  haveI : FldI K (He.ga K "Standing") "_loose" := ⟨T.c_Standing, T.n_Standing__loose⟩
  haveI : FldI K (He.ga K "Weaving") "web" := ⟨T.c_Weaving, T.n_Weaving_web⟩
  haveI : FldI K (He.ga K "Weaving") "_events" := ⟨T.c_Weaving, T.n_Weaving__events⟩
  haveI : FldI K (He.ga K "Weaving") "_standings" := ⟨T.c_Weaving, T.n_Weaving__standings⟩
  haveI : FldI K (He.ga K "Weaving") "_lockers" := ⟨T.c_Weaving, T.n_Weaving__lockers⟩
  haveI : FldI K (He.ga K "Weaving") "_edges" := ⟨T.c_Weaving, T.n_Weaving__edges⟩
  haveI := T.v_Shape_MARKS
  haveI := T.v_Shape_PARENTS
  haveI := T.v_Web_MOST
  haveI := T.i_DEEDS
  haveI := T.i_MODES
  refine calD T.f__law_apart T.g__law_apart sc__law_apart (fun _ _ _ _ _ _ us hl => match us, hl with | [_, _, _, _], _ => rfl) (fun _ => rfl) (fun cdv A outer s H E hr => ?_)
  have hu := hu_of hr
  have hu64 := hu64_of hr
  have hu65 := hu65_of hr
  refine ⟨_, (pss_cons (ps_set (i := 4) sc__law_apart.nd rfl (by first | exact Or.inl rfl | exact Or.inr rfl) (pe_c C_part hr (by decide) (by rfl) (pa_cons (pv 0) (pa_cons (pe_callTy (tupU K) (by rfl) T.z_tuple (by decide +kernel) (pa_cons (pv 2) pa_nil)) pa_nil))))
    (pss_cons (ps_for PassesOwn.never rfl (pi_range1 (by rfl) T.z_range (pa_cons (pe_callB (lenU K) (by rfl) T.z_len PySem.boot_len (pa_cons (pv 3) pa_nil)) pa_nil)) (pg_name (i := 5) sc__law_apart.nd rfl (by first | exact Or.inl rfl | exact Or.inr rfl))
    (pss_one (ps_if (pt_cmpR (eqU K hu64) (pe_callB (lenU K) (by rfl) T.z_len PySem.boot_len (pa_cons (pe_mt C_Weaving_holders hr (by decide) (pv 4) (pa_cons (pv 5) pa_nil)) pa_nil)) pe_int (nomark _)) (pss_cons (ps_expr (pe_mt C_Weaving_add hr (by decide) (pv 4) (pa_cons pe_int (pa_cons (pe_tup (pa_cons pe_str (pa_cons (pv 5) pa_nil))) pa_nil))))
    (pss_one (ps_ret (pe_and (pe_cmpR (eqU K hu64) (pe_callB (lenI C_Weavingdd_lendd hr (by decide)) (by rfl) T.z_len PySem.boot_len (pa_cons (pv 4) pa_nil)) (pe_op op_plus (pe_callB (lenU K) (by rfl) T.z_len PySem.boot_len (pa_cons (pv 1) pa_nil)) pe_int) (nomark _)) (pe_one (pe_c C__law_same hr (by decide) (by rfl) (pa_cons (pe_callTy (listI K (iterm_Weaving T) (lenm_Weaving T) rfl hr (by decide)) (by rfl) T.z_list (by decide +kernel) (pa_cons (pv 0) pa_nil)) (pa_cons (pv 1) pa_nil)))))))) pss_nil)))
    (pss_one (ps_ret pe_bl)))), ?_⟩
  rintro ⟨⟨ms, rows, ts, evs, ed⟩, names, ths⟩ L g fr Q ⟨o, o2, o3, o4, o5, o6⟩ hR
  dsimp only at o o2 o3 o4 o5 o6
  have hel : evs.length ≤ 50 := o.len
  have htl : ts.length ≤ 100 := o.web.len.1
  show Gk L [some (rWv K ⟨ms, rows, ts, evs, ed⟩), some (rLs (evs.map rEv)), some (rLs (names.map G.rI)), some (rLs (ths.map rThing)), none, none] [g] fr _
  walk_at "g0"
  refine k_callF (c := ct_part K) (fr := fr) ⟨⟨ms, rows, ts, evs, ed⟩, true, names⟩ rfl rfl o ?_
  rintro ⟨ed1, a⟩ (ow : WvOk ⟨ms, rows, ts, partE evs names, ed1⟩)
  have ep : partE evs names = evs := List.filter_eq_self.mpr fun e he => by simpa using o4 e he
  rw [ep] at ow
  obtain ⟨x, pe, ps, pl, pd⟩ := a
  show Gk L _ (rA x :: _) (wvO K ⟨ms, rows, ts, partE evs names, ed1⟩ ⟨x, pe, ps, pl, pd⟩ ++ fr) _
  rw [ep]
  walk_at "g0"
  refine k_forRn (T := Unit) (fun _ _ => True) (fun _ => [some (rWv K ⟨ms, rows, ts, evs, ed⟩), some (rLs (evs.map rEv)), some (rLs (names.map G.rI)), some (rLs (ths.map rThing)), some (rA x), none]) (fun _ => wvO K ⟨ms, rows, ts, evs, ed1⟩ ⟨x, pe, ps, pl, pd⟩ ++ fr) () ?z trivial (by walk_at "le") rfl ?_ ?_
  case z => omega
  · rintro k - N hk - hN
    show Gk L _ _ (oIn x (He.ga K "Weaving") (wvG K ⟨ms, rows, ts, evs, ed1⟩ ⟨x, pe, ps, pl, pd⟩) :: oLs pe (evs.map rEv) :: oDk ps (standsKV K ms rows ts evs) :: oDk pl (lockersKV evs) :: oDt pd (edgesKV ed1) :: fr) _
    walk_at "g0"
    refine k_meth rfl ?_
    walk_at "g0"
    refine k_mcall (c := ct_Weaving_holders K) (fr := fr) ⟨⟨ms, rows, ts, evs, ed1⟩, ⟨x, pe, ps, pl, pd⟩, 0 + (k : Int)⟩ rfl rfl ⟨ow, by show 0 ≤ 0 + (k : Int) ∧ 0 + (k : Int) < ts.length; omega⟩ ?_
    rintro (hs : List (Int × Deed)) ⟨(h1 : Holders evs (0 + (k : Int)) hs), h2⟩
    show Gk L _ (rTp (hs.map rNM) :: _) (oIn x (He.ga K "Weaving") (wvG K ⟨ms, rows, ts, evs, ed1⟩ ⟨x, pe, ps, pl, pd⟩) :: oLs pe (evs.map rEv) :: oDk ps (standsKV K ms rows ts evs) :: oDk pl (lockersKV evs) :: oDt pd (edgesKV ed1) :: fr) _
    walk_at "g0"
    refine k_ifD (fun h0 => ?_) (fun h0 => ?_)
    · have hnil : hs = [] := List.length_eq_zero_iff.mp (by omega)
      subst hnil
      have free : ∀ n, stF evs n (0 + (k : Int)) ≠ 1 ∧ stF evs n (0 + (k : Int)) ≠ 2 := fun n => by
        by_cases hn : n ∈ namesOf evs
        · refine ⟨fun q => ?_, fun q => ?_⟩
          · have := (h1 n .own).mpr ⟨hn, .inl ⟨rfl, q⟩⟩
            cases this
          · have := (h1 n .share).mpr ⟨hn, .inr ⟨rfl, q⟩⟩
            cases this
        · have := stF_none (evs := evs) (k := n) (t := 0 + (k : Int)) fun e he q => hn ((mem_namesOf evs).mpr ⟨e, he, q⟩)
          omega
      have hleg : Legal ts evs ⟨50, ⟨.own, 0 + (k : Int)⟩⟩ := by
        refine ⟨?_, (fun h => nomatch h), fun _ => ?_, (fun h => nomatch h), fun _ n _ => free n, (fun h => nomatch h)⟩
        · show 0 ≤ 0 + (k : Int) ∧ 0 + (k : Int) < ts.length
          omega
        · exact stF_none fun e he (q : e.name = 50) => o5 (q ▸ o4 e he)
      walk_at "g0"
      refine k_meth rfl ?_
      walk_at "g0"
      refine k_mcall (c := ct_Weaving_add K) (fr := fr) ⟨⟨ms, rows, ts, evs, ed1⟩, ⟨x, pe, ps, pl, pd⟩, ⟨50, ⟨.own, 0 + (k : Int)⟩⟩⟩ rfl rfl ⟨ow, hleg, o3⟩ ?_
      rintro (ed2 : List (Int × Int)) -
      show Gk L _ _ (oIn x (He.ga K "Weaving") (wvG K ⟨ms, rows, ts, evs ++ [⟨50, ⟨.own, 0 + (k : Int)⟩⟩], ed2⟩ ⟨x, pe, ps, pl, pd⟩) :: oLs pe ((evs ++ [(⟨50, ⟨.own, 0 + (k : Int)⟩⟩ : Ev)]).map rEv) :: oDk ps _ :: oDk pl _ :: oDt pd _ :: fr) _
      walk_at "g0"
      refine k_lenI (c := ct_Weavingdd_lendd K) (fr := fr) (⟨ms, rows, ts, evs ++ [⟨50, ⟨.own, 0 + (k : Int)⟩⟩], ed2⟩, some ⟨x, pe, ps, pl, pd⟩) rfl rfl trivial (fun _ => evs.length + 1) (fun _ _ => ⟨?_, by omega⟩) ?_
      · show G.rI (((evs ++ [(⟨50, ⟨.own, 0 + (k : Int)⟩⟩ : Ev)]).length : Nat) : Int) = _
        rw [List.length_append, List.length_singleton]
      rintro - -
      walk_at "g0"
      refine k_forgetN (wvO K ⟨ms, rows, ts, evs ++ [⟨50, ⟨.own, 0 + (k : Int)⟩⟩], ed2⟩ ⟨x, pe, ps, pl, pd⟩) ?_
      refine k_andV (c := true) (fun _ K' h => ?_) ?_
      · walk_at "g0"
        refine k_listI (qs := evs.map rEv) (qe := rLs (evs.map rEv)) rfl (by rw [List.length_map]; omega) ?_
        walk_at "g0"
        refine ga_dat2 (F := K) ?_
        refine k_callF (c := ct__law_same K) (fr := fr) (.list (evs.map evD), .list (evs.map evD)) rfl rfl ⟨dok_evs (by omega), dok_evs (by omega)⟩ ?_
        rintro (b3 : Bool) (hb3 : b3 = true ↔ _)
        obtain rfl : b3 = true := hb3.mpr rfl
        exact h
      · rw [decide_eq_true (by omega : (((evs.length + 1 : Nat) : Int)) = (evs.length : Int) + 1)]
        walk_at "g0"
        exact k_fin hR () trivial (fun _ h => h)
    · walk_at "g0"
      refine k_le (by walk_at "le") rfl (hN () ?_)
      trivial
  · rintro - -
    walk_at "g0"
    refine k_forgetN (wvO K ⟨ms, rows, ts, evs, ed1⟩ ⟨x, pe, ps, pl, pd⟩) ?_
    exact k_fin hR () trivial (fun K1 h => h)

end


/-! law -/
def lawMenu : List (List Int) := [[0, 1, 2, 3], [7, 2, 30, 5], [3, 1000003, 0, 12], [9, 10, 8, 1]]
structure NamesOk (ns : List Int) : Prop where
  len : ns.length = 4
  nd : ns.Nodup
  nn : ∀ n ∈ ns, 0 ≤ n
  no : (50 : Int) ∉ ns ∧ (77 : Int) ∉ ns
theorem menu_ok : ∀ ns ∈ lawMenu, NamesOk ns := by
  intro ns h
  simp only [lawMenu, List.mem_cons, List.not_mem_nil, or_false] at h
  rcases h with rfl | rfl | rfl | rfl <;> exact ⟨rfl, by decide, by decide, by decide⟩
def ct_law (K : PySem.W.Frag) : Ct where
  δ := List Int
  ε := Unit
  ok d := d.length ≤ 63
  pre d := [rLk K (d.map G.rI)]
  own d := []
  post d e := True
  ret d _ := rB true
  out d _ := []
section
variable {P : Program} {w : World} {K : PySem.W.Frag} {mg : Str → Option Value} {base : Heap}
set_option maxHeartbeats 4000000 in
theorem ok_law (T : Txt K mg) (C__law_draws : Cal P w K mg base 1 "_law_draws" (Fn (ct__law_draws K)) []) (C__law_rows : Cal P w K mg base 3 "_law_rows" (Fn ct__law_rows) []) (C__law_free_rules : Cal P w K mg base 1 "_law_free_rules" (Fn ct__law_free_rules) []) (C__law_take : Cal P w K mg base 1 "_law_take" (Fn ct__law_take) []) (C__law_rules : Cal P w K mg base 3 "_law_rules" (Fn ct__law_rules) []) (C__law_things : Cal P w K mg base 2 "_law_things" (Fn ct__law_things) []) (C__law_events : Cal P w K mg base 4 "_law_events" (Fn ct__law_events) []) (C__law_web : Cal P w K mg base 7 "_law_web" (Fn (ct__law_web K)) []) (C__law_shape : Cal P w K mg base 5 "_law_shape" (Fn (ct__law_shape K)) []) (C__law_weaving : Cal P w K mg base 10 "_law_weaving" (Fn (ct__law_weaving K)) []) (C__law_part_good : Cal P w K mg base 11 "_law_part_good" (Fn (ct__law_part_good K)) []) (C__law_followers : Cal P w K mg base 2 "_law_followers" (Fn ct__law_followers) []) (C__law_same : Cal P w K mg base 7 "_law_same" (Fn (ct__law_same K)) []) (C_followers : Cal P w K mg base 3 "followers" (Fn (ct_followers K)) []) (C__law_kept : Cal P w K mg base 11 "_law_kept" (Fn (ct__law_kept K)) []) (C__law_reads : Cal P w K mg base 1 "_law_reads" (Fn ct__law_reads) []) (C__law_apart : Cal P w K mg base 11 "_law_apart" (Fn (ct__law_apart K)) []) : ∀ {fd : FuncData}, FunD K "law" "law" (defArgs s_law) (defBody s_law) (defScope s_law) [] [] (He.ga K "law") fd → FnOk P w K mg base C8.CX0 12 (He.ga K "law") fd ["_law_script"] (Fn (ct_law K)) := by
  haveI : FldI K (He.ga K "Shape") "_listed" := ⟨T.c_Shape, T.n_Shape__listed⟩
  haveI : FldI K (He.ga K "Shape") "_marks" := ⟨T.c_Shape, T.n_Shape__marks⟩
  haveI : FldI K (He.ga K "Web") "shape" := ⟨T.c_Web, T.n_Web_shape⟩
  haveI : FldI K (He.ga K "Web") "_rows" := ⟨T.c_Web, T.n_Web__rows⟩
  haveI : FldI K (He.ga K "Web") "_numbers" := ⟨T.c_Web, T.n_Web__numbers⟩
  haveI : FldI K (He.ga K "Standing") "web" := ⟨T.c_Standing, T.n_Standing_web⟩
  haveI : FldI K (He.ga K "Standing") "_modes" := ⟨T.c_Standing, T.n_Standing__modes⟩
  haveI : FldI K (He.ga K "Standing") "_holds" := ⟨T.c_Standing, T.n_Standing__holds⟩
  haveI : FldI K (He.ga K "Standing") "_loose" := ⟨T.c_Standing, T.n_Standing__loose⟩
  haveI : FldI K (He.ga K "Weaving") "web" := ⟨T.c_Weaving, T.n_Weaving_web⟩
  haveI : FldI K (He.ga K "Weaving") "_events" := ⟨T.c_Weaving, T.n_Weaving__events⟩
  haveI : FldI K (He.ga K "Weaving") "_standings" := ⟨T.c_Weaving, T.n_Weaving__standings⟩
  haveI : FldI K (He.ga K "Weaving") "_lockers" := ⟨T.c_Weaving, T.n_Weaving__lockers⟩
  haveI : FldI K (He.ga K "Weaving") "_edges" := ⟨T.c_Weaving, T.n_Weaving__edges⟩
  haveI := T.v_Shape_MARKS
  haveI := T.v_Shape_PARENTS
  haveI := T.v_Web_MOST
  haveI := T.i_DEEDS
  haveI := T.i_MODES
  intro fd F
  refine okD F sc_law  (fun _ => rfl) (fun cdv A outer s H E hr => ?_)
  have hu := hu_of hr
  have hu64 := hu64_of hr
  have hu65 := hu65_of hr
  refine ⟨_, (pss_cons (ps_set (i := 1) sc_law.nd rfl (by first | exact Or.inl rfl | exact Or.inr rfl) (pe_c C__law_draws hr (by decide) (by rfl) (pa_cons (pv 0) pa_nil)))
    (pss_cons (ps_set (i := 2) sc_law.nd rfl (by first | exact Or.inl rfl | exact Or.inr rfl) (pe_lst (pa_cons pe_int pa_nil)))
    (pss_cons (ps_set (i := 3) sc_law.nd rfl (by first | exact Or.inl rfl | exact Or.inr rfl) (pe_c C__law_rows hr (by decide) (by rfl) (pa_cons (pv 1) (pa_cons (pv 2) (pa_cons pe_int pa_nil)))))
    (pss_cons (ps_set (i := 4) sc_law.nd rfl (by first | exact Or.inl rfl | exact Or.inr rfl) (pe_c C__law_free_rules hr (by decide) (by rfl) (pa_cons (pv 3) pa_nil)))
    (pss_cons (ps_if (pt_cmpR (eqU K hu64) (pe_c C__law_take hr (by decide) (by rfl) (pa_cons (pv 1) (pa_cons (pv 2) (pa_cons pe_int pa_nil)))) pe_int (nomark _)) (pss_one (ps_set (i := 4) sc_law.nd rfl (by first | exact Or.inl rfl | exact Or.inr rfl) (pe_c C__law_rules hr (by decide) (by rfl) (pa_cons (pv 1) (pa_cons (pv 2) (pa_cons (pv 3) pa_nil)))))) pss_nil)
    (pss_cons (ps_set (i := 5) sc_law.nd rfl (by first | exact Or.inl rfl | exact Or.inr rfl) (pe_c C__law_things hr (by decide) (by rfl) (pa_cons (pv 1) (pa_cons (pv 2) (pa_cons (pv 3) (pa_cons (pe_ix (ixU K) (pe_lst (pa_cons pe_int (pa_cons pe_int (pa_cons pe_int (pa_cons pe_int (pa_cons pe_int pa_nil)))))) (pe_c C__law_take hr (by decide) (by rfl) (pa_cons (pv 1) (pa_cons (pv 2) (pa_cons pe_int pa_nil)))) (fun _ _ => rfl)) pa_nil))))))
    (pss_cons (ps_set (i := 6) sc_law.nd rfl (by first | exact Or.inl rfl | exact Or.inr rfl) (pe_ix (ixU K) (pe_lst (pa_cons (pe_lst (pa_cons pe_int (pa_cons pe_int (pa_cons pe_int (pa_cons pe_int pa_nil))))) (pa_cons (pe_lst (pa_cons pe_int (pa_cons pe_int (pa_cons pe_int (pa_cons pe_int pa_nil))))) (pa_cons (pe_lst (pa_cons pe_int (pa_cons pe_int (pa_cons pe_int (pa_cons pe_int pa_nil))))) (pa_cons (pe_lst (pa_cons pe_int (pa_cons pe_int (pa_cons pe_int (pa_cons pe_int pa_nil))))) pa_nil))))) (pe_c C__law_take hr (by decide) (by rfl) (pa_cons (pv 1) (pa_cons (pv 2) (pa_cons pe_int pa_nil)))) (fun _ _ => rfl)))
    (pss_cons (ps_set (i := 7) sc_law.nd rfl (by first | exact Or.inl rfl | exact Or.inr rfl) (pe_ix (ixU K) (pe_lst (pa_cons pe_int (pa_cons pe_int (pa_cons pe_int (pa_cons pe_int (pa_cons pe_int (pa_cons pe_int (pa_cons pe_int (pa_cons pe_int (pa_cons pe_int (pa_cons pe_int (pa_cons pe_int (pa_cons pe_int (pa_cons pe_int (pa_cons pe_int (pa_cons pe_int (pa_cons pe_int pa_nil))))))))))))))))) (pe_c C__law_take hr (by decide) (by rfl) (pa_cons (pv 1) (pa_cons (pv 2) (pa_cons pe_int pa_nil)))) (fun _ _ => rfl)))
    (pss_cons (ps_set (i := 8) sc_law.nd rfl (by first | exact Or.inl rfl | exact Or.inr rfl) (pe_lc (own := [("_law_k", 15)]) rfl sc_law.nd (pi_range1 (by rfl) T.z_range (pa_cons pe_int pa_nil)) (blkOk_by (own := [("_law_k", 15)]) (N := N_law) (sc := (defScope s_law)) (by decide +kernel)) (fun _ _ _ _ _ => (pg_name (i := 15) sc_law.nd rfl (by first | exact Or.inl rfl | exact Or.inr rfl))) (fun _ _ _ _ _ => pts_one (pt_cmpR (eqU K hu64) (pe_op op_mod (pe_op op_fdiv (pv 7) (pe_ix (ixU K) (pe_lst (pa_cons pe_int (pa_cons pe_int (pa_cons pe_int (pa_cons pe_int pa_nil))))) (pv 15) (fun _ _ => rfl))) pe_int) pe_int (nomark _))) (fun _ _ _ _ _ => (pe_ix (ixU K) (pv 6) (pv 15) (fun _ _ => rfl)))))
    (pss_cons (ps_if (pt_cmpR (eqU K hu64) (pe_c C__law_take hr (by decide) (by rfl) (pa_cons (pv 1) (pa_cons (pv 2) (pa_cons pe_int pa_nil)))) pe_int (nomark _)) (pss_one (ps_expr (pe_bm PySem.F.plainAttrs_list PySem.F.slot_list_append PySem.F.type_list_append mt_append (pv 8) (pa_cons pe_int pa_nil)))) pss_nil)
    (pss_cons (ps_setLc (i := 9) (own := [("_law_event", 16)]) rfl sc_law.nd rfl rfl (sw_true rfl rfl rfl (by decide +kernel)) (piL K (pe_c C__law_events hr (by decide) (by rfl) (pa_cons (pv 1) (pa_cons (pv 2) (pa_cons (pv 4) (pa_cons (pv 5) (pa_cons pe_int (pa_cons pe_int pa_nil)))))))) (blkOk_by (own := [("_law_event", 16)]) (N := N_law) (sc := (defScope s_law)) (by decide +kernel)) (fun _ _ _ _ _ => (pg_name (i := 16) sc_law.nd rfl (by first | exact Or.inl rfl | exact Or.inr rfl))) (fun _ _ _ _ _ => pts_nil) (fun _ _ _ _ _ => (pe_tup (pa_cons (pe_ix (ixU K) (pv 6) (pe_ix (ixU K) (pv 16) pe_int (fun _ _ => rfl)) (fun _ _ => rfl)) (pa_cons (pe_ix (ixU K) (pv 16) pe_int (fun _ _ => rfl)) pa_nil)))))
    (pss_cons (ps_set (i := 10) sc_law.nd rfl (by first | exact Or.inl rfl | exact Or.inr rfl) (pe_c C__law_web hr (by decide) (by rfl) (pa_cons (pe_c C__law_shape hr (by decide) (by rfl) (pa_cons (pv 3) pa_nil)) (pa_cons (pv 5) pa_nil))))
    (pss_cons (ps_set (i := 11) sc_law.nd rfl (by first | exact Or.inl rfl | exact Or.inr rfl) (pe_c C__law_weaving hr (by decide) (by rfl) (pa_cons (pv 10) (pa_cons (pv 9) pa_nil))))
    (pss_cons (ps_set (i := 12) sc_law.nd rfl (by first | exact Or.inl rfl | exact Or.inr rfl) (pe_callTy (lstU K) (by rfl) T.z_list (by decide +kernel) (pa_cons (pv 8) pa_nil)))
    (pss_cons (ps_if (PW.pt (pw_or (pt_not (pt_val (pe_c C__law_part_good hr (by decide) (by rfl) (pa_cons (pv 11) (pa_cons (pv 10) (pa_cons (pv 9) (pa_cons (pv 12) pa_nil))))))) (pw_or1 (pt_cmpR (neU K hu64) (pv 12) (pv 8) (nomark _))))) (pss_one (ps_ret pe_bl)) pss_nil)
    (pss_cons (ps_set (i := 13) sc_law.nd rfl (by first | exact Or.inl rfl | exact Or.inr rfl) (pe_c C__law_followers hr (by decide) (by rfl) (pa_cons (pv 9) (pa_cons (pv 8) pa_nil))))
    (pss_cons (ps_if (PW.pt (pw_or (pt_not (pt_val (pe_c C__law_same hr (by decide) (by rfl) (pa_cons (pe_c C_followers hr (by decide) (by rfl) (pa_cons (pv 11) (pa_cons (pv 12) pa_nil))) (pa_cons (pe_callTy (tupU K) (by rfl) T.z_tuple (by decide +kernel) (pa_cons (pv 13) pa_nil)) pa_nil))))) (pw_or1 (pt_cmpR (neU K hu64) (pv 12) (pv 8) (nomark _))))) (pss_one (ps_ret pe_bl)) pss_nil)
    (pss_cons (ps_if (pt_not (pt_val (pe_c C__law_same hr (by decide) (by rfl) (pa_cons (pe_c C_followers hr (by decide) (by rfl) (pa_cons (pv 11) (pa_cons (pe_callTy (tupU K) (by rfl) T.z_tuple (by decide +kernel) (pa_cons (pv 8) pa_nil)) pa_nil))) (pa_cons (pe_callTy (tupU K) (by rfl) T.z_tuple (by decide +kernel) (pa_cons (pv 13) pa_nil)) pa_nil))))) (pss_one (ps_ret pe_bl)) pss_nil)
    (pss_cons (ps_if (PW.pt (pw_or (pt_not (pt_val (pe_c C__law_same hr (by decide) (by rfl) (pa_cons (pe_c C_followers hr (by decide) (by rfl) (pa_cons (pv 11) (pa_cons (pe_lst pa_nil) pa_nil))) (pa_cons (pe_tup pa_nil) pa_nil))))) (pw_or1 (pt_not (pt_val (pe_c C__law_kept hr (by decide) (by rfl) (pa_cons (pv 11) (pa_cons (pv 9) (pa_cons (pv 6) (pa_cons (pv 13) pa_nil)))))))))) (pss_one (ps_ret pe_bl)) pss_nil)
    (pss_cons (ps_setLc (i := 14) (own := [("_law_read", 17)]) rfl sc_law.nd rfl rfl (sw_true rfl rfl rfl (by decide +kernel)) (piL K (pe_c C__law_reads hr (by decide) (by rfl) (pa_cons (pv 9) pa_nil))) (blkOk_by (own := [("_law_read", 17)]) (N := N_law) (sc := (defScope s_law)) (by decide +kernel)) (fun _ _ _ _ _ => (pg_name (i := 17) sc_law.nd rfl (by first | exact Or.inl rfl | exact Or.inr rfl))) (fun _ _ _ _ _ => pts_one (PW.pt (pw_and (pt_cmpR (notInU K hu65) (pe_ix (ixU K) (pv 17) pe_int (fun _ _ => rfl)) (pv 8) rfl) (pw_and1 (pt_cmpR (inU K hu65) (pe_ix (ixU K) (pv 17) pe_int (fun _ _ => rfl)) (pv 8) rfl))))) (fun _ _ _ _ _ => (pv 17)))
    (pss_cons (ps_if (pt_cmpR (neU K hu64) (pe_c C__law_kept hr (by decide) (by rfl) (pa_cons (pv 11) (pa_cons (pv 9) (pa_cons (pv 6) (pa_cons (pv 8) pa_nil))))) (pe_cmpR (eqU K hu64) (pe_callB (lenU K) (by rfl) T.z_len PySem.boot_len (pa_cons (pv 14) pa_nil)) pe_int (nomark _)) (nomark _)) (pss_one (ps_ret pe_bl)) pss_nil)
    (pss_one (ps_ret (pe_and (pe_c C__law_apart hr (by decide) (by rfl) (pa_cons (pv 11) (pa_cons (pv 9) (pa_cons (pv 6) (pa_cons (pv 5) pa_nil))))) (pe_one (pe_c C__law_same hr (by decide) (by rfl) (pa_cons (pe_callTy (listI K (iterm_Weaving T) (lenm_Weaving T) rfl hr (by decide)) (by rfl) T.z_list (by decide +kernel) (pa_cons (pv 11) pa_nil)) (pa_cons (pv 9) pa_nil)))))))))))))))))))))))))))), ?_⟩
  rintro (sc : List Int) L g fr Q o hR
  have o : sc.length ≤ 63 := o
  show Gk L [some (rLk K (sc.map G.rI)), none, none, none, none, none, none, none, none, none, none, none, none, none, none, none, none, none] [g] fr _
  walk_at "g0"
  refine k_callF (c := ct__law_draws K) (fr := fr) sc rfl rfl o ?_
  rintro (ds : List Int) (hds : ds.length ≤ 10000)
  show Gk L _ (rLs (ds.map G.rI) :: _) fr _
  repeat' walk_at "st"
  refine k_lstO (by decide) fun a => ?_
  walk_at "g0"
  refine k_callF (c := ct__law_rows) (fr := fr) (ds, a, 0, 2) rfl rfl ⟨Int.le_refl _, hds, by show (0:Int) ≤ 2; decide, by show (2:Int) ≤ 6; decide⟩ ?_
  rintro ⟨ms, rows, k1⟩ ⟨⟨(m1 : (ms.length : Int) = 2), (m2 : RowsOk ms rows)⟩, (m3 : 0 ≤ k1)⟩
  have hml : ms.length = 2 := by omega
  have hrl : rows.length = 2 := by rw [← hml, ← m2.marks, List.length_map]
  have hnd : (rows.map Row.mark).Nodup := by rw [m2.marks]; exact m2.nodup
  show Gk L _ (rLs (rows.map rRow) :: _) (oLs a [G.rI k1] :: fr) _
  walk_at "g0"
  refine k_callF (c := ct__law_free_rules) (fr := oLs a [G.rI k1] :: fr) rows rfl rfl ⟨hnd, by omega⟩ ?_
  rintro (ru : List Rule) (hru : RulesOk (rows.map Row.mark) ru)
  show Gk L _ (rDk (rulesKV ru) :: _) (oLs a [G.rI k1] :: fr) _
  walk_at "g0"
  refine k_callF (c := ct__law_take) (fr := fr) (ds, a, k1, 3) rfl rfl ⟨by show (0:Int) < 3; decide, m3, hds⟩ ?_
  rintro (z : Int) -
  show Gk L _ (G.rI z :: _) (oLs a [G.rI (k1 + 1)] :: fr) _
  walk_at "g0"
  refine k_cut (T := List Rule × Int) (fun s => RulesOk (rows.map Row.mark) s.1 ∧ 0 ≤ s.2) (fun s => [some (rLk K (sc.map G.rI)), some (rLs (ds.map G.rI)), some (rA a), some (rLs (rows.map rRow)), some (rDk (rulesKV s.1)), none, none, none, none, none, none, none, none, none, none, none, none, none]) (fun s => oLs a [G.rI s.2] :: fr) ?_ (fun cont => ?_)
  rotate_left 1
  · refine k_ifD (fun _ => ?_) (fun _ => ?_)
    · walk_at "gb"
      refine k_callF (c := ct__law_rules) (fr := fr) (ds, a, k1 + 1, rows) rfl rfl ⟨by show 0 ≤ k1 + 1; omega, hds, hnd, by show rows.length ≤ 100; omega⟩ ?_
      rintro ⟨ru2, k2⟩ ⟨(q1 : RulesOk (rows.map Row.mark) ru2), (q2 : 0 ≤ k2)⟩
      show Gk L _ (rDk (rulesKV ru2) :: _) (oLs a [G.rI k2] :: fr) _
      walk_at "gb"
      exact cont (ru2, k2) ⟨q1, q2⟩
    · walk_at "gb"
      exact cont (ru, k1 + 1) ⟨hru, by show 0 ≤ k1 + 1; omega⟩
  clear hru ru m3
  rintro ⟨ru, k2⟩ ⟨(hru : RulesOk (rows.map Row.mark) ru), (m3 : 0 ≤ k2)⟩
  dsimp only
  walk_at "g0"
  refine k_callF (c := ct__law_take) (fr := fr) (ds, a, k2, 5) rfl rfl ⟨by show (0:Int) < 5; decide, m3, hds⟩ ?_
  rintro (z1 : Int) ⟨(z1l : 0 ≤ z1), (z1r : z1 < 5)⟩
  show Gk L _ (G.rI z1 :: rLs (([3, 2, 4, 1, 0] : List Int).map G.rI) :: _) (oLs a [G.rI (k2 + 1)] :: fr) _
  refine k_ixLm (t := G.rI) (xs := [3, 2, 4, 1, 0]) ⟨z1l, z1r⟩ ?_
  have hnt : ∀ n ∈ ([3, 2, 4, 1, 0] : List Int), 0 ≤ n ∧ n ≤ 4 := by decide
  have hnt := hnt _ (getD_mem (l := [3, 2, 4, 1, 0]) (n := z1.toNat) (by show z1.toNat < 5; omega))
  generalize ([3, 2, 4, 1, 0] : List Int).getD z1.toNat default = nt at hnt
  walk_at "g0"
  refine k_callF (c := ct__law_things) (fr := fr) (ds, a, k2 + 1, ms, rows, nt) rfl rfl ⟨by show 0 ≤ k2 + 1; omega, hds, m2, ⟨by show 0 < rows.length; omega, by show rows.length ≤ 100; omega⟩, hnt.1, by show nt ≤ 100; omega⟩ ?_
  rintro ⟨ts, k3⟩ ⟨⟨(t1 : (ts.length : Int) = nt), (t2 : ThingsOk rows ts)⟩, (t3 : 0 ≤ k3)⟩
  have htl : ts.length ≤ 4 := by omega
  show Gk L _ (rLs (ts.map rThing) :: _) (oLs a [G.rI k3] :: fr) _
  walk_at "g0"
  refine k_callF (c := ct__law_take) (fr := fr) (ds, a, k3, 4) rfl rfl ⟨by show (0:Int) < 4; decide, t3, hds⟩ ?_
  rintro (z2 : Int) ⟨(z2l : 0 ≤ z2), (z2r : z2 < 4)⟩
  show Gk L _ (G.rI z2 :: rLs (lawMenu.map fun l => rLs (l.map G.rI)) :: _) (oLs a [G.rI (k3 + 1)] :: fr) _
  refine k_ixLm (α := List Int) (t := fun (l : List Int) => rLs (l.map G.rI)) (xs := lawMenu) ⟨z2l, z2r⟩ ?_
  have hns := menu_ok _ (getD_mem (l := lawMenu) (n := z2.toNat) (by show z2.toNat < 4; omega))
  generalize lawMenu.getD z2.toNat default = names at hns
  walk_at "g0"
  refine k_aR [G.rI 1, G.rI 2, G.rI 4, G.rI 8, G.rI 3, G.rI 6, G.rI 12, G.rI 9, G.rI 5, G.rI 10, G.rI 7, G.rI 14, G.rI 13, G.rI 11, G.rI 15, G.rI 0] rfl ?_
  walk_at "g0"
  refine k_callF (c := ct__law_take) (fr := fr) (ds, a, k3 + 1, 16) rfl rfl ⟨by show (0:Int) < 16; decide, by show 0 ≤ k3 + 1; omega, hds⟩ ?_
  rintro (z3 : Int) ⟨(z3l : 0 ≤ z3), (z3r : z3 < 16)⟩
  show Gk L _ (G.rI z3 :: rLs (([1, 2, 4, 8, 3, 6, 12, 9, 5, 10, 7, 14, 13, 11, 15, 0] : List Int).map G.rI) :: _) (oLs a [G.rI (k3 + 1 + 1)] :: fr) _
  refine k_ixLm (t := G.rI) (xs := [1, 2, 4, 8, 3, 6, 12, 9, 5, 10, 7, 14, 13, 11, 15, 0]) ⟨z3l, z3r⟩ ?_
  generalize ([1, 2, 4, 8, 3, 6, 12, 9, 5, 10, 7, 14, 13, 11, 15, 0] : List Int).getD z3.toNat default = mask
  walk_at "g0"
  refine k_lcR (w := ⟨rfl⟩) (by omega) (fun k => decide (mask / (([1, 2, 4, 8] : List Int).getD k.toNat default) % 2 = 1)) (fun k => G.rI (names.getD k.toNat default)) _  (fun y => gok_nm rfl (by decide)) (fun y hy gx D acc K2 h => ?_) (fun y hy hp gx D acc K1 h => ?_) (fun D => ?_)
  · walk_at "cm"
    walk_at "g0"
    show Gk L _ (G.rI y :: rLs (([1, 2, 4, 8] : List Int).map G.rI) :: _) _ _
    refine k_ixLm (t := G.rI) (xs := [1, 2, 4, 8]) hy ?_
    have hd : ∀ n ∈ ([1, 2, 4, 8] : List Int), 0 < n ∧ n < 1073741824 := by decide
    have hd := hd _ (getD_mem (l := [1, 2, 4, 8]) (n := y.toNat) (by show y.toNat < 4; omega))
    refine k_div hd ?_
    walk_at "g0"
    exact h
  · walk_at "cm"
    have := hns.len
    walk_at "g0"
    exact h
  obtain ⟨ch, hch, hc1, hc2⟩ : ∃ ch : List Int, ((rngL 0 1 (4 : Int).toNat).filter (fun k => decide (mask / (([1, 2, 4, 8] : List Int).getD k.toNat default) % 2 = 1))).map (fun k => G.rI (names.getD k.toNat default)) = ch.map G.rI ∧ ch.Sublist names ∧ ch.length ≤ 4 := by
    have hsub : ((((rngL 0 1 (4 : Int).toNat).filter (fun k => decide (mask / (([1, 2, 4, 8] : List Int).getD k.toNat default) % 2 = 1))).map fun k => names.getD k.toNat default)).Sublist names := by
      have e : (rngL 0 1 (4 : Int).toNat).map (fun k => names.getD k.toNat default) = names := by
        match names, hns.len with
        | [n1, n2, n3, n4], _ => rfl
      have := (List.filter_sublist (p := fun k => decide (mask / (([1, 2, 4, 8] : List Int).getD k.toNat default) % 2 = 1)) (l := rngL 0 1 (4 : Int).toNat)).map fun k => names.getD k.toNat default
      rw [e] at this
      exact this
    refine ⟨_, by rw [List.map_map]; rfl, hsub, ?_⟩
    have := hsub.length_le
    rw [hns.len] at this
    exact this
  rw [hch]
  walk_at "g0"
  refine ga_front 1 rfl ?_
  refine k_callF (c := ct__law_take) (fr := oLs D (ch.map G.rI) :: fr) (ds, a, k3 + 1 + 1, 3) rfl rfl ⟨by show (0:Int) < 3; decide, by show 0 ≤ k3 + 1 + 1; omega, hds⟩ ?_
  rintro (z4 : Int) -
  show Gk L _ (G.rI z4 :: _) (oLs a [G.rI (k3 + 1 + 1 + 1)] :: oLs D (ch.map G.rI) :: fr) _
  walk_at "g0"
  have hcnd : ch.Nodup := hns.nd.sublist hc1
  have hcnn : ∀ n ∈ ch, 0 ≤ n := fun n hn => hns.nn n (hc1.subset hn)
  refine k_cut (T := List Int) (fun c => c.Nodup ∧ c.length ≤ 5 ∧ ∀ n ∈ c, 0 ≤ n) (fun _ => [some (rLk K (sc.map G.rI)), some (rLs (ds.map G.rI)), some (rA a), some (rLs (rows.map rRow)), some (rDk (rulesKV ru)), some (rLs (ts.map rThing)), some (rLs (names.map G.rI)), some (G.rI mask), some (rA D), none, none, none, none, none, none, none, none, none]) (fun c => oLs a [G.rI (k3 + 1 + 1 + 1)] :: oLs D (c.map G.rI) :: fr) ?_ (fun cont => ?_)
  rotate_left 1
  · refine k_ifD (fun _ => ?_) (fun _ => ?_)
    · walk_at "gb"
      rw [show ch.map G.rI ++ [G.rI 77] = (ch ++ [77]).map G.rI from by rw [List.map_append]; rfl]
      refine cont (ch ++ [77]) ⟨?_, by rw [List.length_append, List.length_singleton]; omega, fun n hn => ?_⟩
      · rw [List.nodup_append]
        exact ⟨hcnd, by simp, fun x hx y hy e => hns.no.2 (hc1.subset (by rw [← (List.mem_singleton.mp hy), ← e]; exact hx))⟩
      · rcases List.mem_append.mp hn with q | q
        · exact hcnn n q
        · rw [List.mem_singleton.mp q]; decide
    · walk_at "gb"
      exact cont ch ⟨hcnd, by omega, hcnn⟩
  clear hcnd hcnn hc1 hc2 hch
  clear ch
  rintro ch ⟨hcnd, hcl, hcnn⟩
  refine n_frzS 8 ?_
  walk_at "g0"
  have hru2 : RulesOk ms ru := by rw [← m2.marks]; exact hru
  refine k_callF (c := ct__law_events) (fr := fr) ⟨ds, a, k3 + 1 + 1 + 1, ms, rows, ru, ts, 4, 14⟩ rfl rfl ⟨⟨by show 0 ≤ k3 + 1 + 1 + 1; omega, hds⟩, m2, hru2, t2, by show ts.length ≤ 100; omega, by show (0:Int) ≤ 4 ∧ (4:Int) ≤ 10; decide, by show (0:Int) ≤ 14 ∧ (14:Int) ≤ 100; decide⟩ ?_
  rintro ⟨e1, k4⟩ ⟨⟨(hr1 : Run ts e1), (hl1 : (e1.length : Int) ≤ 14), (hn1 : ∀ x ∈ e1, 0 ≤ x.name ∧ x.name < 4)⟩, -⟩
  show Gk L _ (rLs (e1.map rEv) :: _) (oLs a [G.rI k4] :: fr) _
  refine k_forget 0 ?_
  show Gk L _ _ fr _
  have hnl := hns.len
  refine k_lcL (w := ⟨rfl⟩) (xs := e1) (t := rEv) (fun _ => true) (fun e => rEv (rnE (fun n => names.getD n.toNat default) e)) _  (by omega) (fun y => gok_nm rfl (by decide)) (fun y hy gx D acc K2 h => ?_) (fun y hy hp gx D acc K1 h => ?_) (fun D => ?_)
  · walk_at "cm"
    walk_at "g0"
    exact h
  · walk_at "cm"
    have hy2 := hn1 y hy
    have hy3 : 0 ≤ y.name ∧ y.name < (names.length : Int) := by omega
    walk_at "g0"
    exact h
  refine n_frzT ?_
  rw [show (e1.filter fun _ => true) = e1 from List.filter_eq_self.mpr fun _ _ => rfl, show (e1.map fun e => rEv (rnE (fun n => names.getD n.toNat default) e)) = (e1.map (rnE fun n => names.getD n.toNat default)).map rEv from by rw [List.map_map]; rfl]
  have hrun : Run ts (e1.map (rnE fun n => names.getD n.toNat default)) := by
    refine run_rn (D := fun n => 0 ≤ n ∧ n < 4) (fun x y hx hy e => ?_) hr1 hn1
    have e : names.getD x.toNat default = names.getD y.toNat default := e
    have g : ∀ n : Int, 0 ≤ n ∧ n < 4 → names[n.toNat]? = some (names.getD n.toNat default) := fun n hn => by
      have hlt : n.toNat < names.length := by omega
      rw [List.getD_eq_getElem?_getD, List.getElem?_eq_getElem hlt]; rfl
    have := nodup_idx hns.nd (g x hx) (by rw [e]; exact g y hy)
    omega
  have hlen : (e1.map (rnE fun n => names.getD n.toNat default)).length ≤ 14 := by rw [List.length_map]; omega
  have hall : ∀ e ∈ e1.map (rnE fun n => names.getD n.toNat default), e.name ∈ names := fun e he => by
    obtain ⟨x, hx, rfl⟩ := List.mem_map.mp he
    have := hn1 x hx
    exact getD_mem (by omega)
  generalize (e1.map (rnE fun n => names.getD n.toNat default)) = evs at hrun hlen hall
  walk_at "g0"
  refine k_callF (c := ct__law_shape K) (fr := fr) ⟨ms, rows⟩ rfl rfl ⟨m2, hrl⟩ ?_
  rintro - -
  show Gk L _ (rShape K ms rows :: _) fr _
  walk_at "g0"
  refine k_callF (c := ct__law_web K) (fr := fr) ⟨ms, rows, ts⟩ rfl rfl ⟨m2, t2, by show ts.length ≤ 50; omega, by show rows.length ≤ 6; omega⟩ ?_
  rintro - -
  show Gk L _ (rWeb K ms rows ts :: _) fr _
  have hweb : WebOk ⟨ms, rows, ts, true, 0, 0, 0⟩ := ⟨m2, t2, by show ts.length ≤ 100; omega, by show rows.length ≤ 6; omega⟩
  walk_at "g0"
  refine k_callF (c := ct__law_weaving K) (fr := fr) ⟨ms, rows, ts, evs⟩ rfl rfl ⟨hweb, hrun, by show evs.length ≤ 50; omega⟩ ?_
  rintro (ed : List (Int × Int)) (hw : WvOk ⟨ms, rows, ts, evs, ed⟩)
  show Gk L _ (rWv K ⟨ms, rows, ts, evs, ed⟩ :: _) fr _
  walk_at "g0"
  refine k_callF (c := ct__law_part_good K) (fr := fr) ⟨⟨ms, rows, ts, evs, ed⟩, ch⟩ rfl rfl ⟨hw, hcnd, by show ch.length ≤ 20; omega⟩ ?_
  rintro - -
  show Gk L _ (rB true :: _) fr _
  refine k_tb ?_
  refine k_orF ?_
  have hshp : Shp 60 (.list (ch.map PyData.int)) := shp_list (n := 59) fun d hd => by
    obtain ⟨x, _, rfl⟩ := List.mem_map.mp hd
    exact shp_int _
  have neq : ∀ {rs : List (Option R)} {st : List R} {K' : KK}, Gk L rs (rB false :: st) fr K' → Gk L rs (rLs (ch.map G.rI) :: rLs (ch.map G.rI) :: st) fr (opk (rNeU K) K') := fun {rs st K'} h => by
    refine k_neD (hshp.shaped (by omega)) (hshp.shaped (by omega)) ?_
    rw [PySem.SeqAt.eqv_refl _ hshp.lay]
    exact h
  have hm1 : (-1 : Int) ∉ ch := fun h => by have := hcnn _ h; omega
  have hnn : ∀ n ∈ namesOf evs, 0 ≤ n := fun n hn => by
    obtain ⟨e, he, rfl⟩ := (mem_namesOf evs).mp hn
    exact hns.nn _ (hall e he)
  have hel5 : evs.length ≤ 50 := by omega
  walk_at "g0"
  refine neq ?_
  walk_at "g0"
  refine k_callF (c := ct__law_followers) (fr := fr) ⟨evs, ch⟩ rfl rfl ⟨hel5, hcnd, by show ch.length ≤ 20; omega, by have := names_len hall; show (namesOf evs).length ≤ 4; omega⟩ ?_
  rintro (due : List Int) (hdue : FolOk evs ch due)
  have hdl : due.length ≤ 50 := by
    have := nodup_lenI hdue.nd hdue.sub
    have := namesOf_len evs
    omega
  show Gk L _ (rLs (due.map G.rI) :: _) fr _
  walk_at "g0"
  refine k_callF (c := ct_followers K) (fr := fr) ⟨⟨ms, rows, ts, evs, ed⟩, false, ch⟩ rfl rfl hw ?_
  rintro (fe : List Int) (hfe : FolOk evs ch fe)
  obtain rfl : fe = due := hfe.unique hdue
  show Gk L _ (rTp (fe.map G.rI) :: _) fr _
  walk_at "g0"
  have hdd := dok_ints (xs := fe) (by omega)
  refine ga_dat2 (F := K) ?_
  refine k_callF (c := ct__law_same K) (fr := fr) (.tuple (fe.map PyData.int), .tuple (fe.map PyData.int)) rfl rfl ⟨hdd, hdd⟩ ?_
  rintro (b1 : Bool) (hb1 : b1 = true ↔ _)
  obtain rfl : b1 = true := hb1.mpr rfl
  show Gk L _ (rB true :: _) fr _
  refine k_tb ?_
  refine k_orF ?_
  walk_at "g0"
  refine neq ?_
  walk_at "g0"
  refine k_callF (c := ct_followers K) (fr := fr) ⟨⟨ms, rows, ts, evs, ed⟩, true, ch⟩ rfl rfl hw ?_
  rintro (fe2 : List Int) (hfe2 : FolOk evs ch fe2)
  obtain rfl : fe2 = fe := hfe2.unique hfe
  show Gk L _ (rTp (fe2.map G.rI) :: _) fr _
  walk_at "g0"
  refine ga_dat2 (F := K) ?_
  refine k_callF (c := ct__law_same K) (fr := fr) (.tuple (fe2.map PyData.int), .tuple (fe2.map PyData.int)) rfl rfl ⟨hdd, hdd⟩ ?_
  rintro (b2 : Bool) (hb2 : b2 = true ↔ _)
  obtain rfl : b2 = true := hb2.mpr rfl
  show Gk L _ (rB true :: _) fr _
  refine k_tb ?_
  refine k_ifF ?_
  repeat' walk_at "st"
  refine k_lstB (by decide) ?_
  walk_at "g0"
  refine k_callF (c := ct_followers K) (fr := fr) ⟨⟨ms, rows, ts, evs, ed⟩, false, []⟩ rfl rfl hw ?_
  rintro (fe3 : List Int) (hfe3 : FolOk evs [] fe3)
  obtain rfl : fe3 = [] := hfe3.none
  show Gk L _ (rTp (([] : List Int).map G.rI) :: _) fr _
  walk_at "g0"
  have hd0 := dok_ints (xs := []) (by decide)
  refine ga_dat2 (F := K) ?_
  refine k_callF (c := ct__law_same K) (fr := fr) (.tuple (([] : List Int).map PyData.int), .tuple (([] : List Int).map PyData.int)) rfl rfl ⟨hd0, hd0⟩ ?_
  rintro (b3 : Bool) (hb3 : b3 = true ↔ _)
  obtain rfl : b3 = true := hb3.mpr rfl
  show Gk L _ (rB true :: _) fr _
  refine k_tb ?_
  refine k_orF ?_
  walk_at "g0"
  refine k_callF (c := ct__law_kept K) (fr := fr) ⟨⟨ms, rows, ts, evs, ed⟩, names, fe2⟩ rfl rfl ⟨hw, by show names.length ≤ 20; omega⟩ ?_
  rintro (b4 : Bool) (hb4 : b4 = true ↔ _)
  have hm2 : (-1 : Int) ∉ fe2 := fun h => by have := hnn _ (hfe2.sub _ h); omega
  obtain rfl : b4 = true := hb4.mpr ((reads_part hall hm2).mpr fun r hr hrr hs => (mem_restOf.mp hrr).2 (hfe2.clo r hr hs))
  show Gk L _ (rB true :: _) fr _
  refine k_tb ?_
  refine k_ifF ?_
  walk_at "g0"
  refine k_callF (c := ct__law_reads) (fr := fr) evs rfl rfl hel5 ?_
  rintro - -
  show Gk L _ (rLs ((readsOf evs).map rRd) :: _) fr _
  have hrdl := readsOf_len evs
  refine k_lcL (w := ⟨rfl⟩) (xs := readsOf evs) (t := rRd) (fun r => !decide (r.name ∈ ch) && decide (r.src ∈ ch)) (fun r => rRd r) _  (by omega) (fun y => gok_nm rfl (by decide)) (fun y hy gx D acc K2 h => ?_) (fun y hy hp gx D acc K1 h => ?_) (fun D => ?_)
  · walk_at "cm"
    walk_at "g0"
    refine k_andJ (c := decide (y.src ∈ ch)) (fun _ K' h => ?_) h
    walk_at "g0"
    exact h
  · walk_at "cm"
    walk_at "g0"
    exact h
  walk_at "g0"
  show GA L _ _ [g] (oLs D (((readsOf evs).filter (fun r => !decide (r.name ∈ ch) && decide (r.src ∈ ch))).map rRd) :: fr) _
  generalize hst : (readsOf evs).filter (fun r => !decide (r.name ∈ ch) && decide (r.src ∈ ch)) = stray
  refine k_callF (c := ct__law_kept K) (fr := oLs D (stray.map rRd) :: fr) ⟨⟨ms, rows, ts, evs, ed⟩, names, ch⟩ rfl rfl ⟨hw, by show names.length ≤ 20; omega⟩ ?_
  rintro (b5 : Bool) (hb5 : b5 = true ↔ _)
  have hb6 : b5 = true ↔ ∀ r ∈ readsOf evs, r.name ∈ restOf names ch → r.src ∉ ch := hb5.trans (reads_part hall hm1)
  clear hb5
  have hb7 : b5 = decide ((stray.length : Int) = 0) := by
    have e0 : ((stray.length : Int) = 0) ↔ stray = [] := by rw [← List.length_eq_zero_iff]; omega
    have e1 : stray = [] ↔ ∀ r ∈ readsOf evs, r.name ∈ restOf names ch → r.src ∉ ch := by
      rw [← hst, List.filter_eq_nil_iff]
      constructor
      · intro h r hr hrr hs
        have := h r hr
        simp [(mem_restOf.mp hrr).2, hs] at this
      · intro h r hr hh
        simp only [Bool.and_eq_true, Bool.not_eq_true', decide_eq_false_iff_not, decide_eq_true_eq] at hh
        obtain ⟨e, he, hen⟩ := (mem_namesOf evs).mp (reads_name hr)
        exact h r hr (mem_restOf.mpr ⟨hen ▸ hall e he, hh.1⟩) hh.2
    cases b5 with
    | true => exact (decide_eq_true (e0.mpr (e1.mpr (hb6.mp rfl)))).symm
    | false => exact (decide_eq_false fun q => nomatch hb6.mpr (e1.mp (e0.mp q))).symm
  show Gk L _ (rB b5 :: _) (oLs D (stray.map rRd) :: fr) _
  walk_at "g0"
  rw [← hb7]
  rw [show (b5 != b5) = false from by cases b5 <;> rfl]
  refine k_ifF ?_
  walk_at "g0"
  refine k_callF (c := ct__law_apart K) (fr := oLs D (stray.map rRd) :: fr) ⟨⟨ms, rows, ts, evs, ed⟩, names, ts⟩ rfl rfl ⟨hw, by show names.length ≤ 20; omega, by show evs.length < 50; omega, hall, hns.no.1, rfl⟩ ?_
  rintro - -
  show Gk L _ (rB true :: _) (oLs D (stray.map rRd) :: fr) _
  refine k_andV (c := true) (fun _ K' h => ?_) ?_
  · walk_at "g0"
    refine k_listI (qs := evs.map rEv) (qe := rLs (evs.map rEv)) rfl (by rw [List.length_map]; omega) ?_
    walk_at "g0"
    refine ga_dat2 (F := K) ?_
    refine k_callF (c := ct__law_same K) (fr := oLs D (stray.map rRd) :: fr) (.list (evs.map evD), .list (evs.map evD)) rfl rfl ⟨dok_evs (by omega), dok_evs (by omega)⟩ ?_
    rintro (b8 : Bool) (hb8 : b8 = true ↔ _)
    obtain rfl : b8 = true := hb8.mpr rfl
    exact h
  · refine k_forget 0 ?_
    exact k_fin hR () trivial (fun _ h => h)

end


end W
namespace W
open PySem PySem.Spec PyProof.Rows L2 C8 G
theorem all_law {P : Program} {w : World} {K : PySem.W.Frag} {mg : Str → Option Value} {base : Heap} (T : Txt K mg) {fd : FuncData} (F : FunD K "law" "law" (defArgs s_law) (defBody s_law) (defScope s_law) [] [] (He.ga K "law") fd) : FnOk P w K mg base C8.CX0 12 (He.ga K "law") fd ["_law_script"] (Fn (ct_law K)) := by
  have C__law_draws := ok__law_draws (P := P) (w := w) (base := base) T 
  have C__law_take := ok__law_take (P := P) (w := w) (base := base) T 
  have C__law_marks := ok__law_marks (P := P) (w := w) (base := base) T C__law_take
  have C__law_rows := ok__law_rows (P := P) (w := w) (base := base) T C__law_marks C__law_take
  have C__law_way := ok__law_way (P := P) (w := w) (base := base) T C__law_take
  have C__law_rules := ok__law_rules (P := P) (w := w) (base := base) T C__law_take C__law_way
  have C__law_free_rules := ok__law_free_rules (P := P) (w := w) (base := base) T 
  have C__law_things := ok__law_things (P := P) (w := w) (base := base) T C__law_take
  have C__law_number := ok__law_number (P := P) (w := w) (base := base) T 
  have C__law_lets := ok__law_lets (P := P) (w := w) (base := base) T C__law_number
  have C__law_do := ok__law_do (P := P) (w := w) (base := base) T 
  have C__law_open := ok__law_open (P := P) (w := w) (base := base) T C__law_lets
  have C__law_free := ok__law_free (P := P) (w := w) (base := base) T 
  have C__law_events := ok__law_events (P := P) (w := w) (base := base) T C__law_open C__law_free C__law_take C__law_do
  have C__law_edges := ok__law_edges (P := P) (w := w) (base := base) T 
  have C__law_ascending := ok__law_ascending (P := P) (w := w) (base := base) T C__law_edges
  have C__law_reads := ok__law_reads (P := P) (w := w) (base := base) T 
  have C__law_followers := ok__law_followers (P := P) (w := w) (base := base) T C__law_reads
  have C__law_same := ok__law_same (P := P) (w := w) (base := base) T 
  have C_is_mark := ok_is_mark (P := P) (w := w) (base := base) T 
  have C_sound_row := ok_sound_row (P := P) (w := w) (base := base) T C_is_mark
  have C_barren := ok_barren (P := P) (w := w) (base := base) T 
  have C_Shapedd_initdd := ok_Shapedd_initdd (P := P) (w := w) (base := base) T C_sound_row C_barren
  have C_Shapedd_getitemdd := ok_Shapedd_getitemdd (P := P) (w := w) (base := base) T 
  have C_Shapedd_eqdd := ok_Shapedd_eqdd (P := P) (w := w) (base := base) T 
  have C_Shape_modes_of := ok_Shape_modes_of (P := P) (w := w) (base := base) T C_Shapedd_getitemdd
  have C_Webdd_initdd := ok_Webdd_initdd (P := P) (w := w) (base := base) T 
  have C_Webdd_containsdd := ok_Webdd_containsdd (P := P) (w := w) (base := base) T 
  have C_Webdd_eqdd := ok_Webdd_eqdd (P := P) (w := w) (base := base) T C_Shapedd_eqdd
  have C_Standingdd_initdd := ok_Standingdd_initdd (P := P) (w := w) (base := base) T 
  have C_Standing_held_mode := ok_Standing_held_mode (P := P) (w := w) (base := base) T 
  have C_Weavingdd_initdd := ok_Weavingdd_initdd (P := P) (w := w) (base := base) T 
  have C_Weavingdd_lendd := ok_Weavingdd_lendd (P := P) (w := w) (base := base) T 
  have C_Weavingddascending := ok_Weavingddascending (P := P) (w := w) (base := base) T 
  have C_Weaving_holders := ok_Weaving_holders (P := P) (w := w) (base := base) T C_Webdd_containsdd C_Weavingddascending C_Standing_held_mode
  have C_Weaving_reads := ok_Weaving_reads (P := P) (w := w) (base := base) T 
  have C_Weaving_names := ok_Weaving_names (P := P) (w := w) (base := base) T 
  have C_Weaving_edges := ok_Weaving_edges (P := P) (w := w) (base := base) T C_Weavingddascending
  have C_followers := ok_followers (P := P) (w := w) (base := base) T C_Weaving_names C_Weaving_reads
  have C__law_shape := ok__law_shape (P := P) (w := w) (base := base) T C_Shapedd_initdd
  have C_Webdd_getitemdd := ok_Webdd_getitemdd (P := P) (w := w) (base := base) T C_Webdd_containsdd
  have C_Web_mark_of := ok_Web_mark_of (P := P) (w := w) (base := base) T C_Webdd_getitemdd
  have C_Standing_check := ok_Standing_check (P := P) (w := w) (base := base) T C_Webdd_containsdd C_Shape_modes_of C_Web_mark_of
  have C_Standing_take := ok_Standing_take (P := P) (w := w) (base := base) T C_Standing_check
  have C_Standing_copy := ok_Standing_copy (P := P) (w := w) (base := base) T C_Standingdd_initdd C_Standing_take
  have C_Weaving_standing_of := ok_Weaving_standing_of (P := P) (w := w) (base := base) T C_Standing_copy C_Standingdd_initdd
  have C_suitable := ok_suitable (P := P) (w := w) (base := base) T C_Web_mark_of
  have C_Web_put := ok_Web_put (P := P) (w := w) (base := base) T C_Shapedd_getitemdd C_Webdd_containsdd C_suitable
  have C_Weaving_add := ok_Weaving_add (P := P) (w := w) (base := base) T C_Weaving_standing_of C_Standing_check C_Weaving_holders C_Standing_take
  have C_part := ok_part (P := P) (w := w) (base := base) T C_Weavingdd_initdd C_Weaving_add
  have C__law_web := ok__law_web (P := P) (w := w) (base := base) T C_Webdd_initdd C_Web_put
  have C__law_weaving := ok__law_weaving (P := P) (w := w) (base := base) T C_Weavingdd_initdd C_Weaving_add
  have C__law_part_good := ok__law_part_good (P := P) (w := w) (base := base) T C_part C_Webdd_eqdd C__law_same C__law_ascending C_Weaving_edges
  have C__law_kept := ok__law_kept (P := P) (w := w) (base := base) T C__law_reads C__law_same C_Weaving_reads C_part
  have C__law_apart := ok__law_apart (P := P) (w := w) (base := base) T C_part C_Weaving_holders C_Weaving_add C__law_same C_Weavingdd_lendd
  exact ok_law T C__law_draws C__law_rows C__law_free_rules C__law_take C__law_rules C__law_things C__law_events C__law_web C__law_shape C__law_weaving C__law_part_good C__law_followers C__law_same C_followers C__law_kept C__law_reads C__law_apart F
end W
open PySem PySem.W PySem.Calls PyProof.Rows
set_option maxHeartbeats 0 in
theorem PySem.Challenge.cw_weblocks_k75_whole_parts_and_followers_holds : PySem.Challenge.rw_weblocks_k75_whole_parts_and_followers.Holds := by
  w_on; o_law
  refine HandSHeadRun.head_any (r := OpenLaw.row PySem.Challenge.rw_weblocks_k75_whole_parts_and_followers) (q := view (OpenLaw.row PySem.Challenge.rw_weblocks_k75_whole_parts_and_followers).prog [70]) (H := W.hk) (ob := W.ob) (M := 20000) (loose := W.looseL) (d := HandSHeadRun.topDef (OpenLaw.row PySem.Challenge.rw_weblocks_k75_whole_parts_and_followers).prog 70) (kwd := []) W.ob_eq
    (by kernel_rfl) (fun s => by kernel_rfl) W.run (by kernel_rfl) (by kernel_rfl) (by kernel_rfl) (by rfl) (by first | assumption | decide +kernel) (by decide +kernel) ⟨rfl, rfl, rfl, rfl, rfl, by decide +kernel⟩ ?hw ?hc
  case hw => w_witness2
  case hc =>
    refine L2.walk_ofE (l := PySem.Challenge.rw_weblocks_k75_whole_parts_and_followers) (n := 63) (k := 12) (x := "_law_script") (CX := C8.CX0) rfl (by decide) (by kernel_rfl) ⟨rfl, by decide, by decide⟩ ?F (fun _ _ _ _ z => z)
    intro w mg fa h Y GG hmg0
    obtain ⟨K, KX, c⟩ := Y
    have hmg : mg ("law" : PySem.Str) = some (.ref fa) := by
      have e : (HandSHeadRun.topDef (OpenLaw.row PySem.Challenge.rw_weblocks_k75_whole_parts_and_followers).prog 70).name = ("law" : PySem.Str) := by kernel_rfl
      rw [← e]
      exact hmg0
    have T := W.txt_of KX GG c
    obtain ⟨fd, F⟩ := T.f_law
    have e := hmg.symm.trans T.g_law
    cases e
    have b := L2.FunD.bindsA (ps := ["_law_script"]) F fun _ _ _ _ _ _ us hl => match us, hl with | [_], _ => rfl
    exact ⟨K, fd, G.Fn (W.ct_law K), KX, fun s v => b s [v] rfl, fun H a ns hl _ hS => G.law_end (c := W.ct_law K) (fun ns => ns) 63 (fun ns h => h) (fun _ => rfl) (fun _ => rfl) (fun _ _ _ => rfl) H a ns hl hS, fun base _ _ => W.all_law T F⟩
