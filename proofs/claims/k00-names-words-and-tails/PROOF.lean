import PyProof.Rows.All
import Wide.All
import OpenK.AllK
import Wide.FinOn
import HandS.ForMost
import HandS.ForExc
import HandS.Defaults
import HandS.CallSlots
import HandS.Codes
import PyProof.ListStr
import HandS.IsInst
import HandS.More
import HandS.Wide
import HandS.Steps
import HandS.New
import HandS.EndBits
import HandS.HeadHook1
import HandS.HeadHook2
import PySem.Challenge.RW_sheetsmet_k00_names_words_and_tails
import HandS.Ends
import HandS.Head0
import HandS.Head1
import HandS.Head2
import HandS.HeadEnd
set_option Elab.async false
set_option linter.all false
set_option maxRecDepth 100000
set_option maxHeartbeats 4000000
/-! G0: results, heaps in parts, assertions about slots and temporaries. -/
namespace G
open PySem PySem.Spec PyProof.Rows L2

/-! ### results -/
/-- what an exception bears: its class's global name, its fields -/
structure Exn where
  cls : Str
  fs : List (Str × PyData)
/-- a run's result: a value and a state; an exception and a state; stuck (nothing is said) -/
inductive Rs (S α : Type) where
  | ok (a : α) (s : S)
  | er (x : Exn) (s : S)
  | st
namespace Rs
variable {S S' α β : Type}
def wp (m : Rs S α) (P : α → S → Prop) (R : Exn → S → Prop) : Prop := match m with
  | .ok a s => P a s
  | .er x s => R x s
  | .st => False
def bind (m : Rs S α) (k : α → S → Rs S β) : Rs S β := match m with
  | .ok a s => k a s
  | .er x s => .er x s
  | .st => .st
theorem wp_bind {m : Rs S α} {k : α → S → Rs S β} {P : β → S → Prop} {R : Exn → S → Prop} : (m.bind k).wp P R ↔ m.wp (fun a s => (k a s).wp P R) R := by
  cases m <;> exact Iff.rfl
theorem wp.mono {m : Rs S α} {P P' : α → S → Prop} {R R' : Exn → S → Prop} (h : m.wp P R) (hP : ∀ a s, P a s → P' a s) (hR : ∀ x s, R x s → R' x s) : m.wp P' R' := by
  cases m with
  | ok a s => exact hP a s h
  | er x s => exact hR x s h
  | st => exact h
/-- the state through a lens -/
def put (m : Rs S α) (f : S → S') : Rs S' α := match m with
  | .ok a s => .ok a (f s)
  | .er x s => .er x (f s)
  | .st => .st
theorem wp_put {m : Rs S α} {f : S → S'} {P : α → S' → Prop} {R : Exn → S' → Prop} : (m.put f).wp P R ↔ m.wp (fun a s => P a (f s)) (fun x s => R x (f s)) := by
  cases m <;> exact Iff.rfl
def map (m : Rs S α) (f : α → β) : Rs S β := match m with
  | .ok a s => .ok (f a) s
  | .er x s => .er x s
  | .st => .st
theorem wp_map {m : Rs S α} {f : α → β} {P : β → S → Prop} {R : Exn → S → Prop} : (m.map f).wp P R ↔ m.wp (fun a s => P (f a) s) R := by
  cases m <;> exact Iff.rfl
end Rs
def M (S α : Type) : Type := S → Rs S α
def ret {S α : Type} (a : α) : M S α := fun s => .ok a s
def bd {S α β : Type} (m : M S α) (k : α → M S β) : M S β := fun s => (m s).bind fun a s' => k a s'
def stk {S α : Type} : M S α := fun _ => .st
def rse {S α : Type} (x : Exn) : M S α := fun s => .er x s
instance (S : Type) : Monad (M S) where
  pure := ret
  bind := bd
/-- a plain reading of the state -/
def rd {S α : Type} (f : S → α) : M S α := fun s => .ok (f s) s
/-- a value or none -/
def gd {S α : Type} (c : Bool) (a : α) : M S α := fun s => if c = true then .ok a s else .st

/-! ### parts of heaps -/
def emp : Hp := fun _ => none
def Ext (F F' : Hp) : Prop := ∀ a o, F a = some o → F' a = some o
def Dis (A B : Hp) : Prop := ∀ a, A a = none ∨ B a = none
def jn (A B : Hp) : Hp := fun a => match A a with
  | some o => some o
  | none => B a
def one (p : Addr) (o : HO) : Hp := upd emp p o
theorem Ext.refl (F : Hp) : Ext F F := fun _ _ h => h
theorem Ext.trans {A B C : Hp} (h : Ext A B) (k : Ext B C) : Ext A C := fun a o e => k a o (h a o e)
theorem Ext.e (F : Hp) : Ext emp F := fun _ _ h => nomatch h
theorem Ext.none {A B : Hp} (h : Ext A B) {a : Addr} (e : B a = none) : A a = none := by
  cases q : A a with
  | none => rfl
  | some o => rw [h a o q] at e; cases e
theorem Dis.symm {A B : Hp} (h : Dis A B) : Dis B A := fun a => (h a).symm
theorem Dis.e (A : Hp) : Dis emp A := fun _ => .inl rfl
theorem Dis.e' (A : Hp) : Dis A emp := fun _ => .inr rfl
theorem Dis.of {A B : Hp} (h : ∀ a o, A a = some o → B a = none) : Dis A B := fun a => by
  cases e : A a with
  | none => exact .inl rfl
  | some o => exact .inr (h a o e)
theorem Dis.right {A B : Hp} (h : Dis A B) {a : Addr} {o : HO} (e : A a = some o) : B a = none := by
  rcases h a with z | z
  · rw [e] at z; cases z
  · exact z
theorem Dis.left {A B : Hp} (h : Dis A B) {a : Addr} {o : HO} (e : B a = some o) : A a = none := h.symm.right e
theorem Dis.mono {A B A' B' : Hp} (h : Dis A B) (ha : Ext A' A) (hb : Ext B' B) : Dis A' B' := Dis.of fun a o e => hb.none (h.right (ha a o e))
theorem jn_l {A B : Hp} : Ext A (jn A B) := fun a o e => by unfold jn; rw [e]
theorem jn_r {A B : Hp} (d : Dis A B) : Ext B (jn A B) := fun a o e => by unfold jn; rw [d.left e]; exact e
theorem jn_some {A B : Hp} {a : Addr} {o : HO} (h : jn A B a = some o) : A a = some o ∨ (A a = none ∧ B a = some o) := by
  unfold jn at h
  cases e : A a with
  | none => rw [e] at h; exact .inr ⟨rfl, h⟩
  | some u => rw [e] at h; exact .inl h
theorem jn_none {A B : Hp} {a : Addr} (h : A a = none) (k : B a = none) : jn A B a = none := by
  unfold jn; rw [h]; exact k
theorem one_at {p : Addr} {o : HO} : one p o p = some o := upd_same
theorem one_some {p a : Addr} {o u : HO} (h : one p o a = some u) : a = p ∧ u = o := by
  unfold one upd at h
  by_cases e : a = p
  · rw [if_pos e] at h; exact ⟨e, (Option.some.inj h).symm⟩
  · rw [if_neg e] at h; cases h
theorem one_ne {p a : Addr} {o : HO} (h : a ≠ p) : one p o a = none := upd_ne h
theorem upd_some {H : Hp} {p a : Addr} {o u : HO} (h : upd H p o a = some u) : (a = p ∧ u = o) ∨ (a ≠ p ∧ H a = some u) := by
  unfold upd at h
  by_cases e : a = p
  · rw [if_pos e] at h; exact .inl ⟨e, (Option.some.inj h).symm⟩
  · rw [if_neg e] at h; exact .inr ⟨e, h⟩
theorem ext_upd {H : Hp} {p : Addr} {o : HO} (h : H p = none) : Ext H (upd H p o) := fun b u e => by rw [upd_ne (ne_of_none e h)]; exact e
theorem seqL_ext {K : PySem.W.Frag} {F F' : Hp} {a : Addr} {xs : List V} (e : Ext F F') (h : SqL K F a xs) : SqL K F' a xs := by
  rcases h with (h | ⟨o, h⟩) | h
  · exact .inl (.inl (e _ _ h))
  · exact .inl (.inr ⟨o, e _ _ h⟩)
  · exact .inr h
theorem seqT_ext {K : PySem.W.Frag} {F F' : Hp} {a : Addr} {xs : List V} (e : Ext F F') (h : SqT K F a xs) : SqT K F' a xs := by
  rcases h with (h | ⟨o, h⟩) | h
  · exact .inl (.inl (e _ _ h))
  · exact .inl (.inr ⟨o, e _ _ h⟩)
  · exact .inr h

/-! ### assertions about one value -/
/-- F: what is never changed any more; O: what this value alone holds and may change -/
structure As where
  rep : PySem.W.Frag → Hp → Hp → Option V → Prop
  mono : ∀ {K : PySem.W.Frag} {F F' O : Hp} {o : Option V}, Ext F F' → rep K F O o → rep K F' O o
/-- nothing is known -/
def aNo : As := ⟨fun _ _ O _ => O = emp, fun _ h => h⟩
/-- this very value -/
def aV (v : V) : As := ⟨fun _ _ O o => o = some v ∧ O = emp, fun _ h => h⟩
abbrev Tx := List Nat
abbrev sx (t : Tx) : Str := ⟨t.toArray⟩
abbrev aInt (i : Int) : As := aV (.int i)
abbrev aBl (b : Bool) : As := aV (.bl b)
abbrev aStr (t : Tx) : As := aV (.str (sx t))
abbrev aNon (_ : Unit) : As := aV .non
/-- holds nothing of its own -/
class Pers (A : As) : Prop where
  eO : ∀ {K F O o}, A.rep K F O o → O = emp
  val : ∀ {K F O o}, A.rep K F O o → ∃ v, o = some v
instance {v : V} : Pers (aV v) := ⟨fun h => h.2, fun h => ⟨v, h.1⟩⟩
abbrev AllR (K : PySem.W.Frag) (F : Hp) : List As → List V → Prop := Paired fun A v => A.rep K F emp (some v)
theorem AllR.ext {K : PySem.W.Frag} {F F' : Hp} (e : Ext F F') : ∀ {L : List As} {vs : List V}, AllR K F L vs → AllR K F' L vs
  | _, _, .nil => .nil
  | _, _, .cons r t => .cons (As.mono _ e r) (AllR.ext e t)
/-- a tuple; a list that is never changed any more -/
def aTu (L : List As) : As := ⟨fun K F O o => O = emp ∧ ∃ a vs, o = some (.ref a) ∧ SqT K F a vs ∧ AllR K F L vs, fun e ⟨h, a, vs, h1, h2, h3⟩ => ⟨h, a, vs, h1, seqT_ext e h2, AllR.ext e h3⟩⟩
def aFl (L : List As) : As := ⟨fun K F O o => O = emp ∧ ∃ a vs, o = some (.ref a) ∧ SqL K F a vs ∧ AllR K F L vs, fun e ⟨h, a, vs, h1, h2, h3⟩ => ⟨h, a, vs, h1, seqL_ext e h2, AllR.ext e h3⟩⟩
instance {L : List As} : Pers (aTu L) := ⟨fun h => h.1, fun ⟨_, a, _, h, _⟩ => ⟨_, h⟩⟩
instance {L : List As} : Pers (aFl L) := ⟨fun h => h.1, fun ⟨_, a, _, h, _⟩ => ⟨_, h⟩⟩
/-- a list of one's own; its items hold nothing of their own -/
def aLs (L : List As) : As := ⟨fun K F O o => ∃ p vs, o = some (.ref p) ∧ O = one p (.lst vs) ∧ AllR K F L vs, fun e ⟨p, vs, h1, h2, h3⟩ => ⟨p, vs, h1, h2, AllR.ext e h3⟩⟩
/-- as A, and the value is v -/
def aAt (v : V) (A : As) : As := ⟨fun K F O o => o = some v ∧ A.rep K F O o, fun e ⟨h1, h2⟩ => ⟨h1, A.mono e h2⟩⟩
/-- one of two -/
def aOr (b : Bool) (A B : As) : As := if b = true then A else B

/-! ### a def's entry, and what holds at a place -/
structure Ent where
  F0 : Hp
  H0 : Hp
  M0 : Hp
structure Hold (B : Ent) (K : PySem.W.Frag) (L : List As) (vs : List (Option V)) (H : Hp) : Prop where
  ex : ∃ (F : Hp) (Os : Nat → Hp), Ext B.F0 F ∧ (∀ a o, F a = some o → B.F0 a = none → B.M0 a = none → B.H0 a = none) ∧ Ext F H ∧ (∀ i, Ext (Os i) H) ∧ (∀ i, Dis (Os i) F) ∧ (∀ i j, i ≠ j → Dis (Os i) (Os j)) ∧
    (∀ i a o, Os i a = some o → B.M0 a = none → B.H0 a = none) ∧ (∀ (i : Nat) (A : As), L[i]? = some A → ∃ o, vs[i]? = some o ∧ A.rep K F (Os i) o)
  kp : ∀ a o, B.H0 a = some o → B.M0 a = none → H a = some o
  dm : ∀ a o, B.H0 a = some o → ∃ u, H a = some u
  len : L.length = vs.length
/-- what each item reads -/
def Reads (K : PySem.W.Frag) (F H : Hp) (L : List As) (vs : List (Option V)) : Prop := ∀ (i : Nat) (C : As), L[i]? = some C → ∃ u O, vs[i]? = some u ∧ Ext O H ∧ C.rep K F O u
section
variable {B : Ent} {K : PySem.W.Frag} {L L' : List As} {vs vs' : List (Option V)} {H H' : Hp} {A A' : As}
theorem Hold.fresh (h : Hold B K L vs H) {p : Addr} (n : H p = none) : B.H0 p = none := by
  cases e : B.H0 p with
  | none => rfl
  | some o => obtain ⟨u, z⟩ := h.dm p o e; rw [z] at n; cases n
/-- another arrangement: f tells where each item stood -/
theorem Hold.re (h : Hold B K L vs H) (f : Nat → Nat) (hf : ∀ i j, i < L'.length → j < L'.length → f i = f j → i = j) (hl : L'.length = vs'.length)
    (hL : ∀ i A, L'[i]? = some A → (A = aNo ∧ ∃ o, vs'[i]? = some o) ∨ (L[f i]? = some A ∧ ∀ o, vs[f i]? = some o → vs'[i]? = some o)) : Hold B K L' vs' H := by
  classical
  obtain ⟨F, Os, h1, h2, h3, h4, h5, h6, h7, h8⟩ := h.ex
  refine ⟨⟨F, fun i => if i < L'.length ∧ L'[i]? ≠ some aNo then Os (f i) else emp, h1, h2, h3, fun i => ?_, fun i => ?_, fun i j hij => ?_, fun i a o e => ?_, fun i A e => ?_⟩, h.kp, h.dm, hl⟩
  · dsimp only; split
    · exact h4 _
    · exact Ext.e _
  · dsimp only; split
    · exact h5 _
    · exact Dis.e _
  · dsimp only
    split
    · split
      · rename_i a b
        exact h6 _ _ fun z => hij (hf i j a.1 b.1 z)
      · exact Dis.e' _
    · exact Dis.e _
  · dsimp only at e
    split at e
    · exact h7 _ a o e
    · cases e
  · dsimp only
    rcases hL i A e with ⟨rfl, o, ho⟩ | ⟨e1, e2⟩
    · rw [if_neg (by rintro ⟨_, z⟩; exact z e)]
      exact ⟨o, ho, rfl⟩
    · have hi : i < L'.length := (List.getElem?_eq_some_iff.mp e).1
      obtain ⟨o, h9, h10⟩ := h8 _ _ e1
      by_cases hn : A = aNo
      · subst hn
        rw [if_neg (by rintro ⟨_, z⟩; exact z e)]
        exact ⟨o, e2 o h9, rfl⟩
      · rw [if_pos ⟨hi, by rw [e]; intro z; exact hn (Option.some.inj z)⟩]
        exact ⟨o, e2 o h9, h10⟩
theorem Hold.pop {o : Option V} (h : Hold B K (A :: L) (o :: vs) H) : Hold B K L vs H :=
  h.re (fun i => i + 1) (fun i j _ _ e => by omega) (by have := h.len; simpa using this) fun i A e => .inr ⟨by simpa using e, fun o q => by simpa using q⟩
/-- the same, the heap's other part told: an item's part of the heap changed -/
theorem Hold.imp0 {o : Option V} (h : Hold B K (A :: L) (o :: vs) H) (k : ∀ F O, A.rep K F O o → Ext O H → A'.rep K F O o) : Hold B K (A' :: L) (o :: vs) H := by
  obtain ⟨F, Os, h1, h2, h3, h4, h5, h6, h7, h8⟩ := h.ex
  refine ⟨⟨F, Os, h1, h2, h3, h4, h5, h6, h7, fun i C e => ?_⟩, h.kp, h.dm, by have := h.len; simpa using this⟩
  cases i with
  | zero =>
    obtain ⟨o', q1, q2⟩ := h8 0 A rfl
    cases q1
    have e' : A' = C := Option.some.inj e
    subst e'
    exact ⟨o, rfl, k F _ q2 (h4 0)⟩
  | succ i => exact h8 (i + 1) C e
theorem Hold.get0 {o : Option V} (h : Hold B K (A :: L) (o :: vs) H) : ∃ F O, Ext F H ∧ Ext O H ∧ A.rep K F O o := by
  obtain ⟨F, Os, h1, h2, h3, h4, h5, h6, h7, h8⟩ := h.ex
  obtain ⟨o', q1, q2⟩ := h8 0 A rfl
  cases q1
  exact ⟨F, Os 0, h3, h4 0, q2⟩
theorem Hold.get (h : Hold B K L vs H) {i : Nat} (e : L[i]? = some A) : ∃ o F O, vs[i]? = some o ∧ Ext F H ∧ Ext O H ∧ A.rep K F O o := by
  obtain ⟨F, Os, h1, h2, h3, h4, h5, h6, h7, h8⟩ := h.ex
  obtain ⟨o', q1, q2⟩ := h8 i A e
  exact ⟨o', F, Os i, q1, h3, h4 i, q2⟩
/-- one look at the place: what it never changes any more (F), what the items read; what may be put on it -/
theorem Hold.view (h : Hold B K L vs H) : ∃ F, Ext F H ∧ Reads K F H L vs ∧ (∀ A o, A.rep K F emp o → Hold B K (A :: L) (o :: vs) H) ∧
    (∀ p o A v, H p = none → A.rep K (upd F p o) emp (some v) → Hold B K (A :: L) (some v :: vs) (upd H p o)) ∧
    (∀ p o A v, H p = none → A.rep K F (one p o) (some v) → Hold B K (A :: L) (some v :: vs) (upd H p o)) := by
  obtain ⟨F, Os, h1, h2, h3, h4, h5, h6, h7, h8⟩ := h.ex
  have rd : Reads K F H L vs := fun i C e => by
    obtain ⟨u, q1, q2⟩ := h8 i C e
    exact ⟨u, Os i, q1, h4 i, q2⟩
  refine ⟨F, h3, rd, fun A o k => ?_, fun p o A v n k => ?_, fun p o A v n k => ?_⟩
  · refine ⟨⟨F, fun i => match i with | 0 => emp | i + 1 => Os i, h1, h2, h3, fun i => ?_, fun i => ?_, fun i j hij => ?_, fun i a o e => ?_, fun i C e => ?_⟩, h.kp, h.dm, by have := h.len; simpa using this⟩
    · cases i with
      | zero => exact Ext.e _
      | succ i => exact h4 i
    · cases i with
      | zero => exact Dis.e _
      | succ i => exact h5 i
    · cases i with
      | zero => exact Dis.e _
      | succ i =>
        cases j with
        | zero => exact Dis.e' _
        | succ j => exact h6 i j fun z => hij (by rw [z])
    · cases i with
      | zero => cases e
      | succ i => exact h7 i a o e
    · cases i with
      | zero =>
        have e' : A = C := Option.some.inj e
        subst e'
        exact ⟨o, rfl, k⟩
      | succ i => exact h8 i C e
  · have nF : F p = none := h3.none n
    refine ⟨⟨upd F p o, fun i => match i with | 0 => emp | i + 1 => Os i, h1.trans (ext_upd nF), fun a u e e0 m0 => ?_, fun a u e => ?_, fun i => ?_, fun i => ?_, fun i j hij => ?_, fun i a o e => ?_, fun i C e => ?_⟩, fun a u e m => ext_upd n _ _ (h.kp a u e m), fun a u e => ?_, by have := h.len; simpa using this⟩
    · rcases upd_some e with ⟨rfl, rfl⟩ | ⟨_, e⟩
      · exact h.fresh n
      · exact h2 a u e e0 m0
    · rcases upd_some e with ⟨rfl, rfl⟩ | ⟨q, e⟩
      · exact upd_same
      · rw [upd_ne q]; exact h3 a u e
    · cases i with
      | zero => exact Ext.e _
      | succ i => exact (h4 i).trans (ext_upd n)
    · cases i with
      | zero => exact Dis.e _
      | succ i =>
        refine Dis.of fun a u e => ?_
        have q : a ≠ p := by rintro rfl; rw [h4 i a u e] at n; cases n
        rw [upd_ne q]; exact (h5 i).right e
    · cases i with
      | zero => exact Dis.e _
      | succ i =>
        cases j with
        | zero => exact Dis.e' _
        | succ j => exact h6 i j fun z => hij (by rw [z])
    · cases i with
      | zero => cases e
      | succ i => exact h7 i a o e
    · cases i with
      | zero =>
        have e' : A = C := Option.some.inj e
        subst e'
        exact ⟨some v, rfl, k⟩
      | succ i =>
        obtain ⟨u, q1, q2⟩ := h8 i C e
        exact ⟨u, q1, C.mono (ext_upd nF) q2⟩
    · obtain ⟨u', z⟩ := h.dm a u e
      exact ⟨u', ext_upd n _ _ z⟩
  · have nF : F p = none := h3.none n
    refine ⟨⟨F, fun i => match i with | 0 => one p o | i + 1 => Os i, h1, h2, h3.trans (ext_upd n), fun i => ?_, fun i => ?_, fun i j hij => ?_, fun i a u e => ?_, fun i C e => ?_⟩, fun a u e m => ext_upd n _ _ (h.kp a u e m), fun a u e => ?_, by have := h.len; simpa using this⟩
    · cases i with
      | zero =>
        intro a u e
        obtain ⟨rfl, rfl⟩ := one_some e
        exact upd_same
      | succ i => exact (h4 i).trans (ext_upd n)
    · cases i with
      | zero =>
        refine Dis.of fun a u e => ?_
        obtain ⟨rfl, rfl⟩ := one_some e
        exact nF
      | succ i => exact h5 i
    · have aux : ∀ i, Dis (one p o) (Os i) := fun i => Dis.of fun a u e => by
        obtain ⟨rfl, rfl⟩ := one_some e
        exact (h4 i).none n
      cases i with
      | zero =>
        cases j with
        | zero => exact absurd rfl hij
        | succ j => exact aux j
      | succ i =>
        cases j with
        | zero => exact (aux i).symm
        | succ j => exact h6 i j fun z => hij (by rw [z])
    · cases i with
      | zero =>
        obtain ⟨rfl, rfl⟩ := one_some e
        exact fun _ => h.fresh n
      | succ i => exact h7 i a u e
    · cases i with
      | zero =>
        have e' : A = C := Option.some.inj e
        subst e'
        exact ⟨some v, rfl, k⟩
      | succ i => exact h8 i C e
    · obtain ⟨u', z⟩ := h.dm a u e
      exact ⟨u', ext_upd n _ _ z⟩
/-- a value that holds nothing of its own, known from what the place holds -/
theorem Hold.push (h : Hold B K L vs H) {o : Option V} (k : ∀ F, Ext F H → Reads K F H L vs → A.rep K F emp o) : Hold B K (A :: L) (o :: vs) H := by
  obtain ⟨F, e, r, p, _⟩ := h.view
  exact p A o (k F e r)
theorem Hold.pushV (h : Hold B K L vs H) (v : V) : Hold B K (aV v :: L) (some v :: vs) H := h.push fun _ _ _ => ⟨rfl, rfl⟩
/-- a persistent item, once more -/
theorem Hold.dup [p : Pers A] (h : Hold B K L vs H) {i : Nat} (e : L[i]? = some A) : ∃ v, vs[i]? = some (some v) ∧ Hold B K (A :: L) (some v :: vs) H := by
  obtain ⟨o, F, O, q1, _, _, q4⟩ := h.get e
  obtain ⟨v, rfl⟩ := p.val q4
  refine ⟨v, q1, h.push fun F _ k => ?_⟩
  obtain ⟨u, O, z1, z2, z3⟩ := k i A e
  rw [q1] at z1; cases z1
  have := p.eO z3
  subst this
  exact z3
/-- a new cell that is never changed any more -/
theorem Hold.new (h : Hold B K L vs H) {p : Addr} {o : HO} (n : H p = none) {v : V}
    (k : ∀ F, Ext F H → Reads K F H L vs → A.rep K (upd F p o) emp (some v)) : Hold B K (A :: L) (some v :: vs) (upd H p o) := by
  obtain ⟨F, e, r, _, q, _⟩ := h.view
  exact q p o A v n (k F e r)
/-- a new cell of one's own -/
theorem Hold.own (h : Hold B K L vs H) {p : Addr} {o : HO} (n : H p = none) {v : V}
    (k : ∀ F, Ext F H → Reads K F H L vs → A.rep K F (one p o) (some v)) : Hold B K (A :: L) (some v :: vs) (upd H p o) := by
  obtain ⟨F, e, r, _, _, q⟩ := h.view
  exact q p o A v n (k F e r)
/-- a cell of one's own is written -/
theorem Hold.write (h : Hold B K L vs H) {i : Nat} (e : L[i]? = some A)
    {p : Addr} {o' : HO} (k : ∀ F O u, vs[i]? = some u → Ext F H → Ext O H → A.rep K F O u → Reads K F H L vs → (∃ o, O p = some o) ∧ A'.rep K F (upd O p o') u) : Hold B K (L.set i A') vs (upd H p o') := by
  obtain ⟨F, Os, h1, h2, h3, h4, h5, h6, h7, h8⟩ := h.ex
  obtain ⟨u, q1, q2⟩ := h8 i A e
  have hi : i < L.length := (List.getElem?_eq_some_iff.mp e).1
  obtain ⟨⟨o, q3⟩, q4⟩ := k F (Os i) u q1 h3 (h4 i) q2 fun j C e => by
    obtain ⟨u, z1, z2⟩ := h8 j C e
    exact ⟨u, Os j, z1, h4 j, z2⟩
  have nF : F p = none := (h5 i).right q3
  have nO : ∀ j, j ≠ i → Os j p = none := fun j hj => (h6 i j (Ne.symm hj)).right q3
  refine ⟨⟨F, fun j => if j = i then upd (Os i) p o' else Os j, h1, h2, fun a w z => ?_, fun j => ?_, fun j => ?_, fun j l hjl => ?_, fun j a w z => ?_, fun j C z => ?_⟩, fun a w z m => ?_, fun a w z => ?_, by rw [List.length_set]; exact h.len⟩
  · rw [upd_ne (by rintro rfl; rw [nF] at z; cases z)]; exact h3 a w z
  · dsimp only
    split
    · intro a w z
      rcases upd_some z with ⟨rfl, rfl⟩ | ⟨y, z⟩
      · exact upd_same
      · rw [upd_ne y]; exact h4 i a w z
    · rename_i hj
      intro a w z
      rw [upd_ne (by rintro rfl; rw [nO j hj] at z; cases z)]; exact h4 j a w z
  · dsimp only
    split
    · refine Dis.of fun a w z => ?_
      rcases upd_some z with ⟨rfl, rfl⟩ | ⟨y, z⟩
      · exact nF
      · exact (h5 i).right z
    · exact h5 j
  · have aux : ∀ l, l ≠ i → Dis (upd (Os i) p o') (Os l) := fun l hl => Dis.of fun a w z => by
      rcases upd_some z with ⟨rfl, rfl⟩ | ⟨y, z⟩
      · exact nO l hl
      · exact (h6 i l (Ne.symm hl)).right z
    dsimp only
    split
    · rename_i hj
      subst hj
      rw [if_neg (Ne.symm hjl)]
      exact aux l (Ne.symm hjl)
    · split
      · rename_i hj hl
        exact (aux j hj).symm
      · exact h6 j l hjl
  · dsimp only at z
    split at z
    · rcases upd_some z with ⟨rfl, rfl⟩ | ⟨y, z⟩
      · exact h7 i _ o q3
      · exact h7 i a w z
    · exact h7 j a w z
  · dsimp only
    by_cases hj : j = i
    · subst hj
      rw [List.getElem?_set_self hi] at z
      cases z
      rw [if_pos rfl]
      exact ⟨u, q1, q4⟩
    · rw [List.getElem?_set_ne (Ne.symm hj)] at z
      rw [if_neg hj]
      exact h8 j C z
  · rw [upd_ne]
    · exact h.kp a w z m
    · rintro rfl
      rw [h7 i _ o q3 m] at z; cases z
  · obtain ⟨w', y⟩ := h.dm a w z
    by_cases hp : a = p
    · exact ⟨o', by rw [hp]; exact upd_same⟩
    · exact ⟨w', by rw [upd_ne hp]; exact y⟩
/-- what one value holds of its own is never changed any more -/
theorem Hold.freeze {o : Option V} (h : Hold B K (A :: L) (o :: vs) H) (k : ∀ F O, A.rep K F O o → Dis O F → A'.rep K (jn F O) emp o) : Hold B K (A' :: L) (o :: vs) H := by
  obtain ⟨F, Os, h1, h2, h3, h4, h5, h6, h7, h8⟩ := h.ex
  obtain ⟨o', q1, q2⟩ := h8 0 A rfl
  cases q1
  refine ⟨⟨jn F (Os 0), fun i => match i with | 0 => emp | i + 1 => Os (i + 1), h1.trans jn_l, fun a w z z0 m0 => ?_, fun a w z => ?_, fun i => ?_, fun i => ?_, fun i j hij => ?_, fun i a w z => ?_, fun i C e => ?_⟩, h.kp, h.dm, by have := h.len; simpa using this⟩
  · rcases jn_some z with z | ⟨_, z⟩
    · exact h2 a w z z0 m0
    · exact h7 0 a w z m0
  · rcases jn_some z with z | ⟨_, z⟩
    · exact h3 a w z
    · exact h4 0 a w z
  · cases i with
    | zero => exact Ext.e _
    | succ i => exact h4 _
  · cases i with
    | zero => exact Dis.e _
    | succ i =>
      refine Dis.of fun a w z => jn_none ((h5 (i + 1)).right z) ((h6 (i + 1) 0 (by omega)).right z)
  · cases i with
    | zero => exact Dis.e _
    | succ i =>
      cases j with
      | zero => exact Dis.e' _
      | succ j => exact h6 (i + 1) (j + 1) fun z => hij (by omega)
  · cases i with
    | zero => cases z
    | succ i => exact h7 _ a w z
  · cases i with
    | zero =>
      have e' : A' = C := Option.some.inj e
      subst e'
      exact ⟨o, rfl, k F (Os 0) q2 (h5 0)⟩
    | succ i =>
      obtain ⟨u, z1, z2⟩ := h8 (i + 1) C e
      exact ⟨u, z1, C.mono jn_l z2⟩
end
end G

set_option maxHeartbeats 4000000
/-! G1: calls over a part of a place; judgements of expressions. -/
namespace G
open PySem PySem.Spec PyProof.Rows L2

section
variable {B : Ent} {K : PySem.W.Frag} {L L' : List As} {vs vs' : List (Option V)} {H H' : Hp} {A A' : As}
/-- a callee is handed the first items; behind it stands what it leaves -/
theorem Hold.split {A1 : List As} {v1 : List (Option V)} (h : Hold B K (A1 ++ L) (v1 ++ vs) H) (hn : A1.length = v1.length) :
    ∃ B1 : Ent, B1.H0 = H ∧ Hold B1 K A1 v1 H ∧ ∀ outs ovs H', Hold B1 K outs ovs H' → Hold B K (outs ++ L) (ovs ++ vs) H' := by
  classical
  obtain ⟨F, Os, h1, h2, h3, h4, h5, h6, h7, h8⟩ := h.ex
  have hlen : L.length = vs.length := by have := h.len; simp only [List.length_append] at this; omega
  generalize hM : (fun a => if ∃ i, i < A1.length ∧ Os i a ≠ none then some (HO.rng 0 0) else none : Hp) = Mm
  have Mn : ∀ a, Mm a = none → ∀ i, i < A1.length → Os i a = none := fun a e i hi => by
    subst hM
    by_cases q : ∃ i, i < A1.length ∧ Os i a ≠ none
    · have e' : (if ∃ i, i < A1.length ∧ Os i a ≠ none then some (HO.rng 0 0) else none) = (none : Option HO) := e
      rw [if_pos q] at e'; cases e'
    · cases z : Os i a with
      | none => rfl
      | some o => exact absurd ⟨i, hi, by rw [z]; exact fun y => nomatch y⟩ q
  have Ms : ∀ a, Mm a ≠ none → ∃ i o, i < A1.length ∧ Os i a = some o := fun a e => by
    subst hM
    by_cases q : ∃ i, i < A1.length ∧ Os i a ≠ none
    · obtain ⟨i, hi, z⟩ := q
      cases y : Os i a with
      | none => exact absurd y z
      | some o => exact ⟨i, o, hi, y⟩
    · exact absurd (show (if ∃ i, i < A1.length ∧ Os i a ≠ none then some (HO.rng 0 0) else none) = (none : Option HO) from if_neg q) e
  have Md : ∀ a k o, A1.length ≤ k → Os k a = some o → Mm a = none := fun a k o hk e => by
    cases z : Mm a with
    | none => rfl
    | some m =>
      obtain ⟨i, o', hi, y⟩ := Ms a (by rw [z]; exact fun q => nomatch q)
      have := (h6 i k (by omega)).right y
      rw [e] at this; cases this
  refine ⟨⟨F, H, Mm⟩, rfl, ⟨⟨F, fun i => if i < A1.length then Os i else emp, Ext.refl F, fun a o e e0 _ => (by have e0 : F a = none := e0; rw [e] at e0; cases e0), h3, fun i => ?_, fun i => ?_, fun i j hij => ?_, fun i a o e m => ?_, fun i A e => ?_⟩, fun a o e _ => e, fun a o e => ⟨o, e⟩, hn⟩, fun outs ovs H' g => ?_⟩
  · dsimp only; split
    · exact h4 i
    · exact Ext.e _
  · dsimp only; split
    · exact h5 i
    · exact Dis.e _
  · dsimp only; split
    · split
      · exact h6 i j hij
      · exact Dis.e' _
    · exact Dis.e _
  · dsimp only at e
    split at e
    · rename_i hi
      rw [Mn a m i hi] at e; cases e
    · cases e
  · have hi : i < A1.length := (List.getElem?_eq_some_iff.mp e).1
    obtain ⟨o, q1, q2⟩ := h8 i A (by rw [List.getElem?_append_left hi]; exact e)
    dsimp only
    rw [if_pos hi]
    exact ⟨o, by rw [List.getElem?_append_left (by omega)] at q1; exact q1, q2⟩
  · obtain ⟨F1, O1, g1, g2, g3, g4, g5, g6, g7, g8⟩ := g.ex
    have g1 : Ext F F1 := g1
    have g2 : ∀ a o, F1 a = some o → F a = none → Mm a = none → H a = none := g2
    have g7 : ∀ i a o, O1 i a = some o → Mm a = none → H a = none := g7
    have gk : ∀ a o, H a = some o → Mm a = none → H' a = some o := g.kp
    have gd : ∀ a o, H a = some o → ∃ u, H' a = some u := g.dm
    have gl := g.len
    refine ⟨⟨F1, fun i => if i < outs.length then O1 i else Os (i - outs.length + A1.length), h1.trans g1, fun a o e e0 m0 => ?_, g3, fun i => ?_, fun i => ?_, fun i j hij => ?_, fun i a o e m => ?_, fun i A e => ?_⟩, fun a o e m => ?_, fun a o e => ?_, by simp only [List.length_append]; omega⟩
    · cases q : F a with
      | some u => exact h2 a u q e0 m0
      | none =>
        cases z : Mm a with
        | none => exact h.fresh (g2 a o e q z)
        | some m =>
          obtain ⟨i, o', hi, y⟩ := Ms a (by rw [z]; exact fun q => nomatch q)
          exact h7 i a o' y m0
    · dsimp only; split
      · exact g4 i
      · intro a o e
        exact gk a o (h4 _ a o e) (Md a _ o (by omega) e)
    · dsimp only; split
      · exact g5 i
      · refine Dis.of fun a o e => ?_
        cases z : F1 a with
        | none => rfl
        | some u =>
          have := g2 a u z ((h5 _).right e) (Md a _ o (by omega) e)
          rw [h4 _ a o e] at this; cases this
    · have aux : ∀ i k, A1.length ≤ k → Dis (O1 i) (Os k) := fun i k hk => Dis.of fun a o e => by
        cases z : Os k a with
        | none => rfl
        | some u =>
          have := g7 i a o e (Md a k u hk z)
          rw [h4 _ a u z] at this; cases this
      dsimp only
      split
      · split
        · exact g6 i j hij
        · exact aux i _ (by omega)
      · split
        · exact (aux j _ (by omega)).symm
        · exact h6 _ _ (by omega)
    · dsimp only at e
      split at e
      · cases z : Mm a with
        | none => exact h.fresh (g7 i a o e z)
        | some y =>
          obtain ⟨i', o', hi, y⟩ := Ms a (by rw [z]; exact fun q => nomatch q)
          exact h7 i' a o' y m
      · exact h7 _ a o e m
    · dsimp only
      by_cases hi : i < outs.length
      · rw [if_pos hi]
        rw [List.getElem?_append_left hi] at e
        obtain ⟨o, q1, q2⟩ := g8 i A e
        exact ⟨o, by rw [List.getElem?_append_left (by omega)]; exact q1, q2⟩
      · rw [if_neg hi]
        rw [List.getElem?_append_right (by omega)] at e
        obtain ⟨o, q1, q2⟩ := h8 (i - outs.length + A1.length) A (by rw [List.getElem?_append_right (by omega), Nat.add_sub_cancel]; exact e)
        refine ⟨o, ?_, A.mono g1 q2⟩
        rw [List.getElem?_append_right (by omega)] at q1 ⊢
        rw [show i - outs.length + A1.length - v1.length = i - ovs.length by omega] at q1
        exact q1
    · have e' := h.kp a o e m
      refine gk a o e' ?_
      cases z : Mm a with
      | none => rfl
      | some y =>
        obtain ⟨i', o', hi, y⟩ := Ms a (by rw [z]; exact fun q => nomatch q)
        have := h7 i' a o' y m
        rw [e] at this; cases this
    · obtain ⟨u, q⟩ := h.dm a o e
      exact gd a u q
/-- items keep their places, each is told more weakly (or nothing is told of it) -/
theorem Hold.weak (h : Hold B K L vs H) (hl : L'.length = L.length) (k : ∀ (i : Nat) (A' : As), L'[i]? = some A' → ∃ A, L[i]? = some A ∧ ((A' = aNo) ∨ ∀ F O o, vs[i]? = some o → A.rep K F O o → A'.rep K F O o)) : Hold B K L' vs H := by
  classical
  obtain ⟨F, Os, h1, h2, h3, h4, h5, h6, h7, h8⟩ := h.ex
  refine ⟨⟨F, fun i => if L'[i]? = some aNo then emp else Os i, h1, h2, h3, fun i => ?_, fun i => ?_, fun i j hij => ?_, fun i a o e m => ?_, fun i C e => ?_⟩, h.kp, h.dm, hl.trans h.len⟩
  · dsimp only; split
    · exact Ext.e _
    · exact h4 i
  · dsimp only; split
    · exact Dis.e _
    · exact h5 i
  · dsimp only; split
    · exact Dis.e _
    · split
      · exact Dis.e' _
      · exact h6 i j hij
  · dsimp only at e; split at e
    · cases e
    · exact h7 i a o e m
  · obtain ⟨A, q1, q2⟩ := k i C e
    obtain ⟨o, q3, q4⟩ := h8 i A q1
    refine ⟨o, q3, ?_⟩
    dsimp only
    by_cases hc : L'[i]? = some aNo
    · rw [if_pos hc]
      rw [hc] at e; cases e
      exact rfl
    · rw [if_neg hc]
      rcases q2 with z | z
      · exact absurd (by rw [e, z]) hc
      · exact z F _ o q3 q4
/-- two items change their assertions and what they hold -/
theorem Hold.give (h : Hold B K L vs H) {i j : Nat} {v : V} (hij : i ≠ j) (ei : L[i]? = some (aAt v A)) (ej : L[j]? = some (aV v)) : Hold B K ((L.set i (aV v)).set j (aAt v A)) vs H := by
  obtain ⟨F, Os, h1, h2, h3, h4, h5, h6, h7, h8⟩ := h.ex
  have hi : i < L.length := (List.getElem?_eq_some_iff.mp ei).1
  have hj : j < L.length := (List.getElem?_eq_some_iff.mp ej).1
  obtain ⟨oi, i1, i2, i3⟩ := h8 i _ ei
  obtain ⟨oj, j1, j2, j3⟩ := h8 j _ ej
  refine ⟨⟨F, fun k => if k = j then Os i else if k = i then emp else Os k, h1, h2, h3, fun k => ?_, fun k => ?_, fun k l hkl => ?_, fun k a o e m => ?_, fun k C e => ?_⟩, h.kp, h.dm, by simp only [List.length_set]; exact h.len⟩
  · dsimp only; split
    · exact h4 i
    · split
      · exact Ext.e _
      · exact h4 k
  · dsimp only; split
    · exact h5 i
    · split
      · exact Dis.e _
      · exact h5 k
  · dsimp only
    split
    · rename_i hk
      rw [if_neg (by omega)]
      split
      · exact Dis.e' _
      · exact h6 _ _ (by omega)
    · split
      · exact Dis.e _
      · split
        · exact h6 _ _ (by omega)
        · split
          · exact Dis.e' _
          · exact h6 _ _ hkl
  · dsimp only at e
    split at e
    · exact h7 i a o e m
    · split at e
      · cases e
      · exact h7 k a o e m
  · dsimp only
    by_cases hk : k = j
    · subst hk
      rw [List.getElem?_set_self (by rw [List.length_set]; exact hj)] at e
      cases e
      rw [if_pos rfl]
      exact ⟨oj, j1, j2, by rw [j2, ← i2]; exact i3⟩
    · rw [List.getElem?_set_ne (Ne.symm hk)] at e
      rw [if_neg hk]
      by_cases hk2 : k = i
      · subst hk2
        rw [List.getElem?_set_self hi] at e
        cases e
        rw [if_pos rfl]
        exact ⟨oi, i1, i2, rfl⟩
      · rw [List.getElem?_set_ne (Ne.symm hk2)] at e
        rw [if_neg hk2]
        exact h8 k C e
theorem Hold.v0 {v : V} {o : Option V} (h : Hold B K (aV v :: L) (o :: vs) H) : o = some v := by
  obtain ⟨F, O, _, _, q, _⟩ := h.get0
  exact q
theorem Hold.v1 {v : V} {o o' : Option V} (h : Hold B K (A :: aV v :: L) (o' :: o :: vs) H) : o = some v := (h.pop).v0
end

/-! ### judgements -/
/-- how an exception lies: its class, its own dict, its fields -/
def HoldX (mg : Str → Option Value) (B : Ent) (K : PySem.W.Frag) (x : Exn) (L : List As) (vs : List (Option V)) (C : Value) (d : Option Addr) (H : Hp) : Prop :=
  mg x.cls = some C ∧ ∃ c dx fs, C = .ref c ∧ d = some dx ∧ H dx = some (.xd fs) ∧ Hold B K L vs H ∧ ∃ F, Ext F H ∧ (∀ f y, (f, y) ∈ x.fs → ∃ v, fs.lookup f = some v ∧ Dp K F v y)
section
variable (X : Cx) (W : WX) {S α β γ : Type}
def ExR (Γ : S → List As) (t : TE) (m : M S α) (P : α → As) : Prop := ∀ (B : Ent) (T : List As) (ts : List (Option V)) (σ : L2.St) (H : Hp) (Q : VK) (s : S), ts.length = T.length → Hold B X.K (T ++ Γ s) (ts ++ σ) H →
  (m s).wp (fun a s' => ∀ v H', Hold B X.K (P a :: (T ++ Γ s')) (some v :: (ts ++ σ)) H' → Q v H') (fun x s' => ∀ C d H', HoldX X.mg B X.K x (T ++ Γ s') (ts ++ σ) C d H' → W C d σ H') → t σ H Q
/-- an expression: from Γ it comes to what m says, its value being as P says -/
def Ex (Γ : S → List As) (e : Expr) (m : M S α) (P : α → As) : Prop := ∃ t, PE X e t ∧ ExR X W Γ t m P
def EtR (Γ : S → List As) (t : TT) (m : M S Bool) : Prop := ∀ (B : Ent) (T : List As) (ts : List (Option V)) (σ : L2.St) (H : Hp) (Q : Bool → Hp → Prop) (s : S), ts.length = T.length → Hold B X.K (T ++ Γ s) (ts ++ σ) H →
  (m s).wp (fun a s' => ∀ H', Hold B X.K (T ++ Γ s') (ts ++ σ) H' → Q a H') (fun x s' => ∀ C d H', HoldX X.mg B X.K x (T ++ Γ s') (ts ++ σ) C d H' → W C d σ H') → t σ H Q
/-- a test -/
def Et (Γ : S → List As) (e : Expr) (m : M S Bool) : Prop := ∃ t, PT X e t ∧ EtR X W Γ t m
def EaR (Γ : S → List As) (t : TA) (m : M S α) (L : α → List As) : Prop := ∀ (B : Ent) (T : List As) (ts : List (Option V)) (σ : L2.St) (H : Hp) (Q : List V → Hp → Prop) (s : S), ts.length = T.length → Hold B X.K (T ++ Γ s) (ts ++ σ) H →
  (m s).wp (fun a s' => ∀ vs H', vs.length = (L a).length → Hold B X.K (L a ++ (T ++ Γ s')) (vs.map some ++ (ts ++ σ)) H' → Q vs H') (fun x s' => ∀ C d H', HoldX X.mg B X.K x (T ++ Γ s') (ts ++ σ) C d H' → W C d σ H') → t σ H Q
/-- an argument list -/
def Ea (Γ : S → List As) (es : List Expr) (m : M S α) (L : α → List As) : Prop := ∃ t, PA X es t ∧ EaR X W Γ t m L
end

/-! ### arrangements of temporaries -/
section
variable {B : Ent} {K : PySem.W.Frag} {L : List As} {vs : List (Option V)} {H : Hp} {A C : As}
/-- the item behind the first n comes to the front -/
theorem Hold.front {L1 : List As} {v1 : List (Option V)} {o : Option V} (h : Hold B K (L1 ++ A :: L) (v1 ++ o :: vs) H) (hn : L1.length = v1.length) : Hold B K (A :: (L1 ++ L)) (o :: (v1 ++ vs)) H := by
  have hl := h.len
  simp only [List.length_append, List.length_cons] at hl
  refine h.re (fun i => if i = 0 then L1.length else if i ≤ L1.length then i - 1 else i) (fun i j hi hj e => ?_) (by simp only [List.length_append, List.length_cons]; omega) fun i D e => .inr ?_
  · try dsimp only at e
    split at e <;> split at e <;> (try split at e) <;> (try split at e) <;> omega
  · cases i with
    | zero =>
      simp only [List.getElem?_cons_zero, Option.some.injEq] at e
      subst e
      simp only [if_true]
      refine ⟨by rw [List.getElem?_append_right (Nat.le_refl _)]; simp, fun o' q => ?_⟩
      rw [List.getElem?_append_right (by omega), hn] at q
      simpa using q
    | succ i =>
      simp only [List.getElem?_cons_succ] at e ⊢
      rw [if_neg (by omega)]
      by_cases hi : i + 1 ≤ L1.length
      · rw [if_pos hi, Nat.add_sub_cancel]
        rw [List.getElem?_append_left (by omega)] at e
        refine ⟨by rw [List.getElem?_append_left (by omega)]; exact e, fun o' q => ?_⟩
        rw [List.getElem?_append_left (by omega)] at q
        rw [List.getElem?_append_left (by omega)]; exact q
      · rw [if_neg hi]
        rw [List.getElem?_append_right (by omega)] at e
        refine ⟨?_, fun o' q => ?_⟩
        · rw [List.getElem?_append_right (by omega), show i + 1 - L1.length = (i - L1.length) + 1 by omega]
          simpa using e
        · rw [List.getElem?_append_right (by omega), show i + 1 - v1.length = (i - v1.length) + 1 by omega] at q
          rw [List.getElem?_append_right (by omega)]
          simpa using q
/-- the first n are dropped -/
theorem Hold.drop {L1 : List As} {v1 : List (Option V)} (h : Hold B K (L1 ++ L) (v1 ++ vs) H) (hn : L1.length = v1.length) : Hold B K L vs H := by
  have hl := h.len
  simp only [List.length_append] at hl
  refine h.re (fun i => i + L1.length) (fun i j _ _ e => Nat.add_right_cancel e) (by omega) fun i D e => .inr ⟨?_, fun o q => ?_⟩
  · rw [List.getElem?_append_right (by omega), Nat.add_sub_cancel]; exact e
  · rw [List.getElem?_append_right (by omega), hn, Nat.add_sub_cancel] at q; exact q
/-- the second is dropped -/
theorem Hold.drop1 {o o' : Option V} (h : Hold B K (A :: C :: L) (o :: o' :: vs) H) : Hold B K (A :: L) (o :: vs) H := by
  have hl := h.len
  simp only [List.length_cons] at hl
  refine h.re (fun i => if i = 0 then 0 else i + 1) (fun i j _ _ e => by split at e <;> split at e <;> omega) (by simp only [List.length_cons]; omega) fun i D e => .inr ?_
  cases i with
  | zero => exact ⟨by simpa using e, fun o q => by simpa using q⟩
  | succ i => exact ⟨by simpa using e, fun o q => by simpa using q⟩
theorem Hold.drop2 {o o' o'' : Option V} {D : As} (h : Hold B K (A :: C :: D :: L) (o :: o' :: o'' :: vs) H) : Hold B K (A :: L) (o :: vs) H := h.drop1.drop1
end

/-! ### expressions -/
section
variable {X : Cx} {W : WX} {S α β γ : Type} {Γ : S → List As} {e a b : Expr} {m : M S α} {P P' : α → As} {pos : Pos}
theorem ex_mono {t t' : TE} (h : ExR X W Γ t m P) (k : ∀ σ H Q, t σ H Q → t' σ H Q) : ExR X W Γ t' m P := fun B T ts σ H Q s hl hh hw => k σ H Q (h B T ts σ H Q s hl hh hw)
/-- a weaker word about the value -/
def Co (A A' : As) : Prop := ∀ K F O o, A.rep K F O o → A'.rep K F O o
theorem ex_co (h : Ex X W Γ e m P) (k : ∀ x, Co (P x) (P' x)) : Ex X W Γ e m P' := by
  obtain ⟨t, ht, hr⟩ := h
  refine ⟨t, ht, fun B T ts σ H Q s hl hh hw => hr B T ts σ H Q s hl hh (hw.mono (fun x s' q v H' z => q v H' ?_) fun _ _ q => q)⟩
  exact z.imp0 fun F O r _ => k x _ F O _ r
/-- what the value alone holds is never changed any more -/
def Frz (A A' : As) : Prop := ∀ K F O o, A.rep K F O o → Dis O F → A'.rep K (jn F O) emp o
theorem ex_frz (h : Ex X W Γ e m P) (k : ∀ x, Frz (P x) (P' x)) : Ex X W Γ e m P' := by
  obtain ⟨t, ht, hr⟩ := h
  refine ⟨t, ht, fun B T ts σ H Q s hl hh hw => hr B T ts σ H Q s hl hh (hw.mono (fun x s' q v H' z => q v H' ?_) fun _ _ q => q)⟩
  exact z.freeze fun F O r d => k x _ F O _ r d
theorem ex_map {f : α → β} {Q : β → As} (h : Ex X W Γ e m P) (k : ∀ x, Q (f x) = P x) : Ex X W Γ e (m >>= fun x => ret (f x)) Q := by
  obtain ⟨t, ht, hr⟩ := h
  refine ⟨t, ht, fun B T ts σ H R s hl hh hw => hr B T ts σ H R s hl hh ?_⟩
  have hw : ((m s).bind fun x s' => Rs.ok (f x) s').wp _ _ := hw
  rw [Rs.wp_bind] at hw
  exact hw.mono (fun x s' q v H' z => q v H' (by rw [k x]; exact z)) fun _ _ q => q
theorem ex_int {i : Int} {j : Nat} : Ex X W Γ (.Constant (.int i) j pos) (ret i) aInt := ⟨_, pe_int, fun B T ts σ H Q s hl hh hw => hw _ _ (hh.pushV _)⟩
theorem ex_bl {i : Bool} {j : Nat} : Ex X W Γ (.Constant (.bool i) j pos) (ret i) aBl := ⟨_, pe_bl, fun B T ts σ H Q s hl hh hw => hw _ _ (hh.pushV _)⟩
theorem ex_non {j : Nat} : Ex X W Γ (.Constant .none j pos) (ret ()) aNon := ⟨_, pe_non, fun B T ts σ H Q s hl hh hw => hw _ _ (hh.pushV _)⟩
/-- a written text -/
def tx (z : Str) : Tx := z.cps.toList
theorem sx_tx (z : Str) : sx (tx z) = z := by cases z; simp [tx]
theorem ex_str {z : Str} {j : Nat} : Ex X W Γ (.Constant (.str z) j pos) (ret (tx z)) aStr := ⟨_, pe_str, fun B T ts σ H Q s hl hh hw => hw _ _ (by
  have := hh.pushV (V.str z)
  show Hold B X.K (aV (.str (sx (tx z))) :: _) _ _
  rw [sx_tx]; exact this)⟩
theorem get_app {L M : List As} {i : Nat} {A : As} (h : M[i]? = some A) : (L ++ M)[L.length + i]? = some A := by
  rw [List.getElem?_append_right (by omega), Nat.add_sub_cancel_left]; exact h
theorem get_app' {ts σ : List (Option V)} {L : List As} {i : Nat} {o : Option V} (hl : ts.length = L.length) (h : (ts ++ σ)[L.length + i]? = some o) : σ[i]? = some o := by
  rw [List.getElem?_append_right (by omega), hl, Nat.add_sub_cancel_left] at h; exact h
/-- a name whose value holds nothing of its own -/
theorem ex_var {x : Str} (i : Nat) {f : S → α} (hΓ : ∀ s, (Γ s)[i]? = some (P (f s))) [hp : ∀ y, Pers (P y)] (hN : X.N[i]? = some x := by rfl) (hv : Vis X.env.scope x := by first | exact Or.inl rfl | exact Or.inr (Or.inl rfl) | exact Or.inr (Or.inr rfl))
    (hd : (x == ("__debug__" : Str)) = false := by decide) (hcd : (x == ("__classdict__" : Str)) = false := by decide) : Ex X W Γ (.Name x pos) (rd f) P := by
  refine ⟨_, pe_var hN hv hd hcd, fun B T ts σ H Q s hl hh hw => ?_⟩
  obtain ⟨v, e, h2⟩ := hh.dup (p := hp (f s)) (get_app (hΓ s))
  exact ⟨v, get_app' hl e, hw v H h2⟩
/-- a name, its object alone (to be handed over) -/
theorem ex_ref {x : Str} {v : V} {A : S → As} (i : Nat) (hΓ : ∀ s, (Γ s)[i]? = some (aAt v (A s))) (hN : X.N[i]? = some x := by rfl) (hv : Vis X.env.scope x := by first | exact Or.inl rfl | exact Or.inr (Or.inl rfl) | exact Or.inr (Or.inr rfl))
    (hd : (x == ("__debug__" : Str)) = false := by decide) (hcd : (x == ("__classdict__" : Str)) = false := by decide) : Ex X W Γ (.Name x pos) (ret ()) (fun _ => aV v) := by
  refine ⟨_, pe_var hN hv hd hcd, fun B T ts σ H Q s hl hh hw => ?_⟩
  obtain ⟨o, F, O, q1, _, _, q4, _⟩ := hh.get (get_app (hΓ s))
  subst q4
  exact ⟨v, get_app' hl q1, hw v H (hh.pushV v)⟩
/-- a module's whole number, text -/
theorem ex_gint {x : Str} {i : Int} {u : Value} (hm : X.mg x = some u) (r : RelV (.int i) u) (hg : Gl X x := by rfl) (hd : (x == ("__debug__" : Str)) = false := by decide) : Ex X W Γ (.Name x pos) (ret i) aInt :=
  ⟨_, pe_glob hg hm r hd, fun B T ts σ H Q s hl hh hw => hw _ _ (hh.pushV _)⟩

/-- a value or none, as a run -/
def lf (o : Option α) : M S α := match o with
  | some a => ret a
  | none => stk
theorem lf_wp {o : Option α} {s : S} {P : α → S → Prop} {R : Exn → S → Prop} : (lf o s).wp P R ↔ ∃ a, o = some a ∧ P a s := by
  cases o with
  | none => exact ⟨fun h => h.elim, fun ⟨_, h, _⟩ => nomatch h⟩
  | some a => exact ⟨fun h => ⟨a, rfl, h⟩, fun ⟨_, h, q⟩ => by cases h; exact q⟩
theorem m_bind {m : M S α} {k : α → M S β} {s : S} : (m >>= k) s = (m s).bind fun a s' => k a s' := rfl
theorem bind_wp {m : M S α} {k : α → M S β} {s : S} {Q : β → S → Prop} {R : Exn → S → Prop} : ((m >>= k) s).wp Q R ↔ (m s).wp (fun a s' => (k a s').wp Q R) R := Rs.wp_bind
/-- an operator by values: f tells the answer -/
def Op1 (K : PySem.W.Frag) (r : V → Hp → VK → Prop) (Pa : α → As) (f : α → Option γ) (Pc : γ → As) : Prop := ∀ (B : Ent) (L : List As) (vs : List (Option V)) (H : Hp) (x : α) (v : V) (c : γ) (Q : VK),
  Hold B K (Pa x :: L) (some v :: vs) H → f x = some c → (∀ w H', Hold B K (Pc c :: L) (some w :: vs) H' → Q w H') → r v H Q
def Op2 (K : PySem.W.Frag) (r : R2) (Pa : α → As) (Pb : β → As) (f : α → β → Option γ) (Pc : γ → As) : Prop := ∀ (B : Ent) (L : List As) (vs : List (Option V)) (H : Hp) (x : α) (y : β) (v u : V) (c : γ) (Q : VK),
  Hold B K (Pb y :: Pa x :: L) (some u :: some v :: vs) H → f x y = some c → (∀ w H', Hold B K (Pc c :: L) (some w :: vs) H' → Q w H') → r v u H Q
theorem two_run {Pa : α → As} {Pb : β → As} {ma : M S α} {mb : M S β} {ta tb : TE} (ha : ExR X W Γ ta ma Pa) (hb : ExR X W Γ tb mb Pb) {B : Ent} {T : List As} {ts : List (Option V)} {σ : L2.St} {H : Hp} {s : S} {k : α → β → M S γ} {Rn : V → V → Hp → Prop} {QQ : γ → S → Prop} {RR : Exn → S → Prop} (hl : ts.length = T.length) (hh : Hold B X.K (T ++ Γ s) (ts ++ σ) H)
    (hR : ∀ x s', (∀ C d H', HoldX X.mg B X.K x (T ++ Γ s') (ts ++ σ) C d H' → W C d σ H') ↔ RR x s')
    (hw : ((ma >>= fun x => mb >>= fun y => k x y) s).wp QQ RR)
    (fin : ∀ x y s' v u H', Hold B X.K (Pb y :: Pa x :: (T ++ Γ s')) (some u :: some v :: (ts ++ σ)) H' → (k x y s').wp QQ RR → Rn v u H') : ta σ H fun v H1 => tb σ H1 fun u H2 => Rn v u H2 := by
  rw [bind_wp] at hw
  refine ha B T ts σ H _ s hl hh (hw.mono (fun x s1 q v H1 h1 => ?_) fun x s' q => (hR x s').mpr q)
  rw [bind_wp] at q
  refine hb B (Pa x :: T) (some v :: ts) σ H1 _ s1 (by simp only [List.length_cons, hl]) h1 (q.mono (fun y s2 q2 u H2 h2 => fin x y s2 v u H2 h2 q2) fun z s' q => fun C d H' hx => (hR z s').mpr q C d H' ?_)
  obtain ⟨e1, c, dx, fs, e2, e3, e4, e5, e6⟩ := hx
  exact ⟨e1, c, dx, fs, e2, e3, e4, e5.pop, e6⟩
theorem ex_op {op : Operator} {r : R2} {Pa : α → As} {Pb : β → As} {ma : M S α} {mb : M S β} {f : α → β → Option γ} {Pc : γ → As} (ho : OpR X (binaryOp op) r) (h2 : Op2 X.K r Pa Pb f Pc) (ha : Ex X W Γ a ma Pa) (hb : Ex X W Γ b mb Pb) :
    Ex X W Γ (.BinOp a op b pos) (ma >>= fun x => mb >>= fun y => lf (f x y)) Pc := by
  obtain ⟨ta, pa, ra⟩ := ha
  obtain ⟨tb, pb, rb⟩ := hb
  refine ⟨_, pe_op ho pa pb, fun B T ts σ H Q s hl hh hw => ?_⟩
  refine two_run (Rn := fun v u H2 => r v u H2 Q) ra rb hl hh (fun _ _ => Iff.rfl) hw fun x y s' v u H' h q => ?_
  obtain ⟨c, e, q⟩ := lf_wp.mp q
  exact h2 B _ _ H' x y v u c Q h e q
theorem ex_cmp {op : CmpOp} {r : R2} {Pa : α → As} {Pb : β → As} {ma : M S α} {mb : M S β} {f : α → β → Option Bool} (ho : OpR X (compareOp op) r) (h2 : Op2 X.K r Pa Pb f aBl) (ha : Ex X W Γ a ma Pa) (hb : Ex X W Γ b mb Pb) (hm : behindInMarks op b = false := by first | exact nomark _ | rfl) :
    Ex X W Γ (.Compare a [op] [b] pos) (ma >>= fun x => mb >>= fun y => lf (f x y)) aBl := by
  obtain ⟨ta, pa, ra⟩ := ha
  obtain ⟨tb, pb, rb⟩ := hb
  refine ⟨_, pe_cmpR ho pa pb hm, fun B T ts σ H Q s hl hh hw => ?_⟩
  refine two_run (Rn := fun v u H2 => r v u H2 Q) ra rb hl hh (fun _ _ => Iff.rfl) hw fun x y s' v u H' h q => ?_
  obtain ⟨c, e, q⟩ := lf_wp.mp q
  exact h2 B _ _ H' x y v u c Q h e q
theorem et_cmp {op : CmpOp} {r : R2} {Pa : α → As} {Pb : β → As} {ma : M S α} {mb : M S β} {f : α → β → Option Bool} (ho : OpR X (compareOp op) r) (h2 : Op2 X.K r Pa Pb f aBl) (ha : Ex X W Γ a ma Pa) (hb : Ex X W Γ b mb Pb) (hm : behindInMarks op b = false := by first | exact nomark _ | rfl) :
    Et X W Γ (.Compare a [op] [b] pos) (ma >>= fun x => mb >>= fun y => lf (f x y)) := by
  obtain ⟨ta, pa, ra⟩ := ha
  obtain ⟨tb, pb, rb⟩ := hb
  refine ⟨_, pt_cmpR ho pa pb hm, fun B T ts σ H Q s hl hh hw => ?_⟩
  refine two_run (Rn := fun v u H2 => r v u H2 fun x H' => ∃ k, x = .bl k ∧ Q k H') ra rb hl hh (fun _ _ => Iff.rfl) hw fun x y s' v u H' h q => ?_
  obtain ⟨c, e, q⟩ := lf_wp.mp q
  refine h2 B _ _ H' x y v u c _ h e fun w H2 z => ⟨c, ?_, q H2 z.pop⟩
  have := z.v0
  exact Option.some.inj this
theorem ex_un {op : UnaryOp} {r : V → Hp → VK → Prop} {Pa : α → As} {ma : M S α} {f : α → Option γ} {Pc : γ → As} (ho : UnR X (unaryOp op) r) (h2 : Op1 X.K r Pa f Pc) (ha : Ex X W Γ a ma Pa) : Ex X W Γ (.UnaryOp op a pos) (ma >>= fun x => lf (f x)) Pc := by
  obtain ⟨ta, pa, ra⟩ := ha
  refine ⟨_, pe_un ho pa, fun B T ts σ H Q s hl hh hw => ?_⟩
  rw [bind_wp] at hw
  refine ra B T ts σ H _ s hl hh (hw.mono (fun x s1 q v H1 h1 => ?_) fun _ _ q => q)
  obtain ⟨c, e, q⟩ := lf_wp.mp q
  exact h2 B _ _ H1 x v c Q h1 e q
end
end G

set_option maxHeartbeats 4000000
/-! G2: tests, arguments, displays, calls. -/
namespace G
open PySem PySem.Spec PyProof.Rows L2
theorem HoldX.to {mg : Str → Option Value} {B : Ent} {K : PySem.W.Frag} {x : Exn} {L L' : List As} {vs vs' : List (Option V)} {C : Value} {d : Option Addr} {H : Hp} (h : HoldX mg B K x L vs C d H) (k : Hold B K L vs H → Hold B K L' vs' H) : HoldX mg B K x L' vs' C d H := by
  obtain ⟨e1, c, dx, fs, e2, e3, e4, e5, e6⟩ := h
  exact ⟨e1, c, dx, fs, e2, e3, e4, k e5, e6⟩
section
variable {X : Cx} {W : WX} {S α β γ : Type} {Γ : S → List As} {e a b : Expr} {es : List Expr} {m : M S α} {P P' : α → As} {pos : Pos}
/-! ### tests -/
theorem et_val {m : M S Bool} (h : Ex X W Γ e m aBl) (he : ∀ whole, isTrue e X.env whole = (do let v ← whole; standAt e.pos; holding [v] (truthy v)) := by intro _; rfl) : Et X W Γ e m := by
  obtain ⟨t, ht, hr⟩ := h
  refine ⟨_, pt_val ht he, fun B T ts σ H Q s hl hh hw => ?_⟩
  refine hr B T ts σ H _ s hl hh (hw.mono (fun c s' q v H' h' => ⟨c, ?_, q H' h'.pop⟩) fun _ _ q => q)
  exact Option.some.inj h'.v0
theorem et_not {m : M S Bool} (h : Et X W Γ e m) : Et X W Γ (.UnaryOp .Not e pos) (m >>= fun c => ret (!c)) := by
  obtain ⟨t, ht, hr⟩ := h
  refine ⟨_, pt_not ht, fun B T ts σ H Q s hl hh hw => ?_⟩
  rw [bind_wp] at hw
  exact hr B T ts σ H _ s hl hh hw
def Ew (X : Cx) (W : WX) (Γ : S → List As) (e : Expr) (m : M S Bool) : Prop := ∃ t, PW X e t ∧ EtR X W Γ t m
theorem Ew.et {m : M S Bool} (h : Ew X W Γ e m) : Et X W Γ e m := let ⟨t, ht, hr⟩ := h; ⟨t, ht.pt, hr⟩
theorem ew_and1 {m : M S Bool} (h : Et X W Γ a m) : Ew X W Γ (.BoolOp .And [a] pos) m := let ⟨t, ht, hr⟩ := h; ⟨t, pw_and1 ht, hr⟩
theorem ew_or1 {m : M S Bool} (h : Et X W Γ a m) : Ew X W Γ (.BoolOp .Or [a] pos) m := let ⟨t, ht, hr⟩ := h; ⟨t, pw_or1 ht, hr⟩
theorem ew_and {m n : M S Bool} {rest : List Expr} (h : Et X W Γ a m) (k : Ew X W Γ (.BoolOp .And (b :: rest) pos) n) : Ew X W Γ (.BoolOp .And (a :: b :: rest) pos) (m >>= fun c => if c = true then n else ret false) := by
  obtain ⟨t, ht, hr⟩ := h
  obtain ⟨u, hu, hs⟩ := k
  refine ⟨_, pw_and ht hu, fun B T ts σ H Q s hl hh hw => ?_⟩
  rw [bind_wp] at hw
  refine hr B T ts σ H _ s hl hh (hw.mono (fun c s' q H' h' => ?_) fun _ _ q => q)
  cases c with
  | true => exact hs B T ts σ H' Q s' hl h' q
  | false => exact q H' h'
theorem ew_or {m n : M S Bool} {rest : List Expr} (h : Et X W Γ a m) (k : Ew X W Γ (.BoolOp .Or (b :: rest) pos) n) : Ew X W Γ (.BoolOp .Or (a :: b :: rest) pos) (m >>= fun c => if c = true then ret true else n) := by
  obtain ⟨t, ht, hr⟩ := h
  obtain ⟨u, hu, hs⟩ := k
  refine ⟨_, pw_or ht hu, fun B T ts σ H Q s hl hh hw => ?_⟩
  rw [bind_wp] at hw
  refine hr B T ts σ H _ s hl hh (hw.mono (fun c s' q H' h' => ?_) fun _ _ q => q)
  cases c with
  | true => exact q H' h'
  | false => exact hs B T ts σ H' Q s' hl h' q
/-- as values -/
theorem ex_one {op : BoolOp} (h : Ex X W Γ a m P) : Ex X W Γ (.BoolOp op [a] pos) m P := let ⟨t, ht, hr⟩ := h; ⟨t, pe_one ht, hr⟩
theorem ex_and {m n : M S Bool} {rest : List Expr} (h : Ex X W Γ a m aBl) (k : Ex X W Γ (.BoolOp .And (b :: rest) pos) n aBl) : Ex X W Γ (.BoolOp .And (a :: b :: rest) pos) (m >>= fun c => if c = true then n else ret false) aBl := by
  obtain ⟨t, ht, hr⟩ := h
  obtain ⟨u, hu, hs⟩ := k
  refine ⟨_, pe_and ht hu, fun B T ts σ H Q s hl hh hw => ?_⟩
  rw [bind_wp] at hw
  refine hr B T ts σ H _ s hl hh (hw.mono (fun c s' q v H' h' => ⟨c, Option.some.inj h'.v0, ?_⟩) fun _ _ q => q)
  cases c with
  | true => exact hs B T ts σ H' Q s' hl h'.pop q
  | false => exact q _ H' (h'.pop.pushV _)
theorem ex_or {m n : M S Bool} {rest : List Expr} (h : Ex X W Γ a m aBl) (k : Ex X W Γ (.BoolOp .Or (b :: rest) pos) n aBl) : Ex X W Γ (.BoolOp .Or (a :: b :: rest) pos) (m >>= fun c => if c = true then ret true else n) aBl := by
  obtain ⟨t, ht, hr⟩ := h
  obtain ⟨u, hu, hs⟩ := k
  refine ⟨_, pe_or ht hu, fun B T ts σ H Q s hl hh hw => ?_⟩
  rw [bind_wp] at hw
  refine hr B T ts σ H _ s hl hh (hw.mono (fun c s' q v H' h' => ⟨c, Option.some.inj h'.v0, ?_⟩) fun _ _ q => q)
  cases c with
  | true => exact q _ H' (h'.pop.pushV _)
  | false => exact hs B T ts σ H' Q s' hl h'.pop q
theorem ex_not {m : M S Bool} (h : Ex X W Γ a m aBl) : Ex X W Γ (.UnaryOp .Not a pos) (m >>= fun c => ret (!c)) aBl := by
  obtain ⟨t, ht, hr⟩ := h
  refine ⟨_, pe_not ht, fun B T ts σ H Q s hl hh hw => ?_⟩
  rw [bind_wp] at hw
  refine hr B T ts σ H _ s hl hh (hw.mono (fun c s' q v H' h' => ⟨c, Option.some.inj h'.v0, ?_⟩) fun _ _ q => q)
  exact q _ H' (h'.pop.pushV _)
theorem ex_if {c : Expr} {mc : M S Bool} {n : M S α} (hc : Et X W Γ c mc) (ha : Ex X W Γ a m P) (hb : Ex X W Γ b n P) : Ex X W Γ (.IfExp c a b pos) (mc >>= fun k => if k = true then m else n) P := by
  obtain ⟨t, ht, hr⟩ := hc
  obtain ⟨u, hu, hs⟩ := ha
  obtain ⟨w, hw, hz⟩ := hb
  refine ⟨_, pe_ifExp ht hu hw, fun B T ts σ H Q s hl hh q => ?_⟩
  rw [bind_wp] at q
  refine hr B T ts σ H _ s hl hh (q.mono (fun c s' q H' h' => ?_) fun _ _ q => q)
  cases c with
  | true => exact hs B T ts σ H' Q s' hl h' q
  | false => exact hz B T ts σ H' Q s' hl h' q
/-- truth of a value of any kind -/
def Tru (K : PySem.W.Frag) (A : As) (b : Bool) : Prop := ∀ B L vs H v, Hold B K (A :: L) (some v :: vs) H → TruV K v H b
theorem et_tru {f : α → Option Bool} (h : Ex X W Γ e m P) (k : ∀ x c, f x = some c → Tru X.K (P x) c) (he : ∀ whole, isTrue e X.env whole = (do let v ← whole; standAt e.pos; holding [v] (truthy v)) := by intro _; rfl) : Et X W Γ e (m >>= fun x => lf (f x)) := by
  obtain ⟨t, ht, hr⟩ := h
  refine ⟨_, pt_truth ht he, fun B T ts σ H Q s hl hh hw => ?_⟩
  rw [bind_wp] at hw
  refine hr B T ts σ H _ s hl hh (hw.mono (fun x s' q v H' h' => ?_) fun _ _ q => q)
  obtain ⟨c, e, q⟩ := lf_wp.mp q
  exact ⟨c, k x c e B _ _ H' v h', q H' h'.pop⟩
/-- a < b < c -/
theorem ex_chain {c : Expr} {op op' : CmpOp} {r r' : R2} {Pa : α → As} {Pb : β → As} {Pc : γ → As} {ma : M S α} {mb : M S β} {mc : M S γ} {f : α → β → Option Bool} {g : β → γ → Option Bool} (ho : OpR X (compareOp op) r) (ho' : OpR X (compareOp op') r')
    (h2 : Op2 X.K r Pa Pb f aBl) (h3 : Op2 X.K r' Pb Pc g aBl) [pb : ∀ y, Pers (Pb y)] (ha : Ex X W Γ a ma Pa) (hb : Ex X W Γ b mb Pb) (hc : Ex X W Γ c mc Pc) (hm : lastMarks [op, op'] [b, c] = false := by with_unfolding_all rfl) :
    Ex X W Γ (.Compare a [op, op'] [b, c] pos) (ma >>= fun x => mb >>= fun y => lf (f x y) >>= fun k => if k = true then mc >>= fun z => lf (g y z) else ret false) aBl := by
  obtain ⟨ta, pa, ra⟩ := ha
  obtain ⟨tb, qb, rb⟩ := hb
  obtain ⟨tc, qc, rc⟩ := hc
  refine ⟨_, pe_chain ho ho' pa qb qc hm, fun B T ts σ H Q s hl hh hw => ?_⟩
  refine two_run (Rn := fun v u H2 => r v u H2 fun z H3 => ∃ k, z = .bl k ∧ _) ra rb hl hh (fun _ _ => Iff.rfl) hw fun x y s' v u H' h q => ?_
  rw [bind_wp] at q
  obtain ⟨k, e, q⟩ := lf_wp.mp q
  have hy : Hold B X.K (Pb y :: (T ++ Γ s')) (some u :: (ts ++ σ)) H' := h.drop1
  obtain ⟨u', eu, hy2⟩ := h.dup (p := pb y) (i := 0) rfl
  have eu : u = u' := Option.some.inj (Option.some.inj eu)
  subst eu
  have h4 : Hold B X.K (Pb y :: Pa x :: Pb y :: (T ++ Γ s')) (some u :: some v :: some u :: (ts ++ σ)) H' := by
    refine hy2.re (fun i => match i with | 0 => 0 | 1 => 2 | 2 => 1 | i + 3 => i + 3) (fun i j hi hj e => ?_) hy2.len fun i A e => .inr ?_
    · match i, j with
      | 0, 0 => rfl
      | 0, 1 => cases e
      | 0, 2 => cases e
      | 0, j + 3 => cases e
      | 1, 0 => cases e
      | 1, 1 => rfl
      | 1, 2 => cases e
      | 1, j + 3 => simp at e
      | 2, 0 => cases e
      | 2, 1 => cases e
      | 2, 2 => rfl
      | 2, j + 3 => simp at e
      | i + 3, 0 => cases e
      | i + 3, 1 => simp at e
      | i + 3, 2 => simp at e
      | i + 3, j + 3 => exact e
    · match i with
      | 0 => exact ⟨e, fun _ q => q⟩
      | 1 => exact ⟨e, fun _ q => q⟩
      | 2 => exact ⟨e, fun _ q => q⟩
      | i + 3 => exact ⟨e, fun _ q => q⟩
  refine h2 B _ _ H' x y v u k _ h4 e fun w H2 z => ⟨k, Option.some.inj z.v0, ?_⟩
  cases k with
  | false => exact q _ H2 (z.pop.pop.pushV _)
  | true =>
    have q : ((mc >>= fun z => lf (g y z)) s').wp _ _ := q
    rw [bind_wp] at q
    refine rc B (Pb y :: T) (some u :: ts) σ H2 _ s' (by simp only [List.length_cons, hl]) z.pop (q.mono (fun zc s2 q2 w3 H3 h5 => ?_) fun x s2 q2 C d H3 hx => q2 C d H3 (hx.to fun z => z.pop))
    obtain ⟨c2, e2, q3⟩ := lf_wp.mp q2
    exact h3 B _ _ H3 y zc u w3 c2 Q h5 e2 q3

/-! ### arguments, displays -/
theorem Hold.keep0 {B : Ent} {K : PySem.W.Frag} {A : As} {L1 L : List As} {o : Option V} {v1 vs : List (Option V)} {H : Hp} (h : Hold B K (A :: (L1 ++ L)) (o :: (v1 ++ vs)) H) (hn : L1.length = v1.length) : Hold B K (A :: L) (o :: vs) H := by
  have hl := h.len
  simp only [List.length_cons, List.length_append] at hl
  refine h.re (fun i => if i = 0 then 0 else i + L1.length) (fun i j _ _ e => ?_) (by simp only [List.length_cons]; omega) fun i A e => .inr ?_
  · split at e <;> split at e <;> omega
  · cases i with
    | zero => exact ⟨by simpa using e, fun o q => by simpa using q⟩
    | succ i =>
      rw [if_neg (by omega)]
      simp only [List.getElem?_cons_succ] at e ⊢
      refine ⟨?_, fun o q => ?_⟩
      · rw [show i + 1 + L1.length = (i + L1.length) + 1 by omega, List.getElem?_cons_succ, List.getElem?_append_right (by omega), Nat.add_sub_cancel]; exact e
      · rw [show i + 1 + L1.length = (i + L1.length) + 1 by omega, List.getElem?_cons_succ, List.getElem?_append_right (by omega), hn, Nat.add_sub_cancel] at q; exact q

theorem ea_nil : Ea X W Γ [] (ret ()) (fun _ => []) := ⟨_, pa_nil, fun B T ts σ H Q s hl hh hw => hw [] H rfl hh⟩
theorem ea_cons {Lb : β → List As} {mb : M S β} (ha : Ex X W Γ e m P) (hb : Ea X W Γ es mb Lb) (hs : starEach (e :: es) X.env = (false, eval e X.env) :: starEach es X.env := by rfl) :
    Ea X W Γ (e :: es) (m >>= fun x => mb >>= fun y => ret (x, y)) (fun z => P z.1 :: Lb z.2) := by
  obtain ⟨ta, pa, ra⟩ := ha
  obtain ⟨tb, pb, rb⟩ := hb
  refine ⟨_, pa_cons pa pb hs, fun B T ts σ H Q s hl hh hw => ?_⟩
  rw [bind_wp] at hw
  refine ra B T ts σ H _ s hl hh (hw.mono (fun x s1 q v H1 h1 => ?_) fun _ _ q => q)
  rw [bind_wp] at q
  refine rb B (P x :: T) (some v :: ts) σ H1 _ s1 (by simp only [List.length_cons, hl]) h1 (q.mono (fun y s2 q2 vs H2 hn h2 => ?_) fun x s2 q2 C d H3 hx => q2 C d H3 (hx.to fun z => z.pop))
  refine q2 (v :: vs) H2 (by simp only [List.length_cons, hn]) ?_
  exact Hold.front h2 (by rw [List.length_map, hn])
/-- all hold nothing of their own -/
def PersL (L : List As) : Prop := ∀ A ∈ L, Pers A
theorem AllR.of_reads {K : PySem.W.Frag} {F : Hp} : ∀ {L : List As} {vs : List V}, PersL L → vs.length = L.length → (∀ (i : Nat) (A : As), L[i]? = some A → ∃ o O, (vs.map some)[i]? = some o ∧ A.rep K F O o) → AllR K F L vs
  | [], [], _, _, _ => .nil
  | [], _ :: _, _, h, _ => by simp at h
  | _ :: _, [], _, h, _ => by simp at h
  | A :: L, v :: vs, hp, hl, k => by
    obtain ⟨o, O, q1, q2⟩ := k 0 A rfl
    have q1 : some v = o := by simpa using q1
    subst q1
    have e := (hp A List.mem_cons_self).eO q2
    subst e
    exact .cons q2 (AllR.of_reads (fun A m => hp A (List.mem_cons_of_mem _ m)) (by simpa using hl) fun i A e => by simpa using k (i + 1) A (by simpa using e))
theorem Hold.allR {B : Ent} {K : PySem.W.Frag} {L M : List As} {vs : List V} {ls : List (Option V)} {F H : Hp} (hn : vs.length = L.length) (hp : PersL L) (k : Reads K F H (L ++ M) (vs.map some ++ ls)) : AllR K F L vs := by
  refine AllR.of_reads hp hn fun i A e => ?_
  have hi : i < L.length := (List.getElem?_eq_some_iff.mp e).1
  obtain ⟨u, O, q1, _, q2⟩ := k i A (by rw [List.getElem?_append_left hi]; exact e)
  rw [List.getElem?_append_left (by rw [List.length_map, hn]; exact hi)] at q1
  exact ⟨u, O, q1, q2⟩
theorem ex_tup {k : Nat} {L : α → List As} (h : Ea X W Γ es m L) (hp : ∀ x, PersL (L x)) (hz : ∀ x, (L x).length ≤ sizeLine := by intro _; decide) : Ex X W Γ (.Tuple es k pos) m (fun x => aTu (L x)) := by
  obtain ⟨t, ht, hr⟩ := h
  refine ⟨_, pe_tup ht, fun B T ts σ H Q s hl hh hw => ?_⟩
  refine hr B T ts σ H _ s hl hh (hw.mono (fun x s1 q vs H1 hn h1 => ⟨by rw [hn]; exact hz x, fun p np => q _ _ ?_⟩) fun _ _ q => q)
  have h2 : Hold B X.K (aTu (L x) :: (L x ++ (T ++ Γ s1))) (some (.ref p) :: (vs.map some ++ (ts ++ σ))) (upd H1 p (.tup vs)) :=
    h1.new np fun F eF k => ⟨rfl, p, vs, rfl, .inl (.inl upd_same), AllR.ext (ext_upd (eF.none np)) (Hold.allR (B := B) hn (hp x) k)⟩
  exact h2.keep0 (by rw [List.length_map, hn])
end
end G

set_option maxHeartbeats 4000000
/-! G3: list displays, calls of defs, of built-ins, methods, items, slices. -/
namespace G
open PySem PySem.Spec PyProof.Rows L2
section
variable {X : Cx} {W : WX} {S α β γ Ω ξ : Type} {Γ : S → List As} {e a b : Expr} {es : List Expr} {m : M S α} {P P' : α → As} {pos : Pos}
/-- a list of one's own -/
theorem ex_lst {L : α → List As} (h : Ea X W Γ es m L) (hp : ∀ x, PersL (L x)) (hz : ∀ x, (L x).length ≤ sizeLine := by intro _; decide) : Ex X W Γ (.List es pos) m (fun x => aLs (L x)) := by
  obtain ⟨t, ht, hr⟩ := h
  refine ⟨_, pe_lst ht, fun B T ts σ H Q s hl hh hw => ?_⟩
  refine hr B T ts σ H _ s hl hh (hw.mono (fun x s1 q vs H1 hn h1 => ⟨by rw [hn]; exact hz x, fun p np => q _ _ ?_⟩) fun _ _ q => q)
  have h2 : Hold B X.K (aLs (L x) :: (L x ++ (T ++ Γ s1))) (some (.ref p) :: (vs.map some ++ (ts ++ σ))) (upd H1 p (.lst vs)) :=
    h1.own np fun F eF k => ⟨p, vs, rfl, rfl, Hold.allR (B := B) hn (hp x) k⟩
  exact h2.keep0 (by rw [List.length_map, hn])

/-! ### a def's promise over its mirror -/
/-- pin: the parameters; ios: those that are handed back, changed; f the mirror; pres the answer; pio what is handed back -/
def spC (mg : Str → Option Value) (K : PySem.W.Frag) (pin : ξ → List As) (ios : List Nat) (pres : β → As) (pio : Ω → List As) (f : ξ → Rs Ω β) : Sp := fun vs H Q E => ∃ (x : ξ) (B : Ent), B.H0 = H ∧ Hold B K (pin x) (vs.map some) H ∧
  (f x).wp (fun b w => ∀ v H', Hold B K (pres b :: pio w) (some v :: ios.map fun j => (vs[j]?)) H' → Q v H') (fun ex w => ∀ C d H', HoldX mg B K ex (pio w) (ios.map fun j => (vs[j]?)) C d H' → E C d H')
/-- a call without a change: the caller's state stays -/
def cpu (r : Rs Unit β) : M S β := fun s => r.put fun _ => s
/-- a call over a part of the state -/
def cio (get : S → Ω) (put : S → Ω → S) (g : Ω → Rs Ω β) : M S β := fun s => (g (get s)).put (put s)
section
variable {k : Nat} {f : Addr} {fd : FuncData} {ps : List Str} {x : Str} {p : Pos} {pin : ξ → List As} {pres : β → As}
/-- f(e, ..): no argument is changed -/
theorem ex_call0 {fm : ξ → Rs Unit β} {La : α → List As} {kx : α → ξ} (F : FnOk X.prog X.w X.K X.mg X.base (L2.CX X.prog X.w) k f fd ps (spC X.mg X.K pin [] pres (fun _ => []) fm)) (hr : Room k X.A) (tk : Takes X W) (hm : X.mg x = some (.ref f)) (hk : PySem.W.keepIn X.K (.ref f) = true) (hb : Binds X.K fd ps [])
    (ha : Ea X W Γ (e :: es) m La) (hL : ∀ y, pin (kx y) = La y) (hg : Gl X x := by rfl) (hdb : (x == ("__debug__" : Str)) = false := by decide) (he : starEach (e :: es) X.env = (false, eval e X.env) :: starEach es X.env := by rfl) (hpl : (backTo pos (starEach es X.env)).any (·.1) = false := by rfl) :
    Ex X W Γ (.Call (.Name x p) (e :: es) [] pos) (m >>= fun y => cpu (fm (kx y))) pres := by
  obtain ⟨t, ht, hr'⟩ := ha
  refine ⟨_, pe_callSD (E := fun σ => WE W σ) F hr hg hm hk hb .nil (fun σ => passAt tk σ) ht hdb he hpl, fun B T ts σ H Q s hl hh hw => ?_⟩
  rw [bind_wp] at hw
  refine hr' B T ts σ H _ s hl hh (hw.mono (fun y s1 q vs H1 hn h1 => ?_) fun _ _ q => q)
  obtain ⟨B1, e1, h2, h3⟩ := h1.split (by rw [List.length_map, hn])
  rw [List.append_nil]
  refine ⟨kx y, B1, e1, by rw [hL y]; exact h2, ?_⟩
  rw [show cpu (fm (kx y)) s1 = (fm (kx y)).put (fun _ => s1) from rfl, Rs.wp_put] at q
  refine q.mono (fun b _ q v H2 h4 => q v H2 ?_) fun ex _ q C d H2 hx => q C d H2 ?_
  · exact h3 [pres b] [some v] H2 h4
  · obtain ⟨e1, c, dx, fs, e2, e3, e4, e5, e6⟩ := hx
    exact ⟨e1, c, dx, fs, e2, e3, e4, h3 [] [] H2 e5, e6⟩
/-- f(e, ..): the argument j, which stands in slot i, is changed -/
theorem ex_call1 {fm : ξ → Rs Ω β} {La : α → List As} {kx : α → Ω → ξ} {A : Ω → As} {v0 : V} {get : S → Ω} {put : S → Ω → S} (i j : Nat)
    (F : FnOk X.prog X.w X.K X.mg X.base (L2.CX X.prog X.w) k f fd ps (spC X.mg X.K pin [j] pres (fun w => [A w]) fm)) (hr : Room k X.A) (tk : Takes X W) (hm : X.mg x = some (.ref f)) (hk : PySem.W.keepIn X.K (.ref f) = true) (hb : Binds X.K fd ps [])
    (ha : Ea X W Γ (e :: es) m La) (hΓ : ∀ s, (Γ s)[i]? = some (aAt v0 (A (get s)))) (hput : ∀ s w, Γ (put s w) = (Γ s).set i (aAt v0 (A w))) (hj : ∀ y, (La y)[j]? = some (aV v0)) (hL : ∀ y w, pin (kx y w) = (La y).set j (A w))
    (hg : Gl X x := by rfl) (hdb : (x == ("__debug__" : Str)) = false := by decide) (he : starEach (e :: es) X.env = (false, eval e X.env) :: starEach es X.env := by rfl) (hpl : (backTo pos (starEach es X.env)).any (·.1) = false := by rfl) :
    Ex X W Γ (.Call (.Name x p) (e :: es) [] pos) (m >>= fun y => cio get put fun w => fm (kx y w)) pres := by
  obtain ⟨t, ht, hr'⟩ := ha
  refine ⟨_, pe_callSD (E := fun σ => WE W σ) F hr hg hm hk hb .nil (fun σ => passAt tk σ) ht hdb he hpl, fun B T ts σ H Q s hl hh hw => ?_⟩
  rw [bind_wp] at hw
  refine hr' B T ts σ H _ s hl hh (hw.mono (fun y s1 q vs H1 hn h1 => ?_) fun _ _ q => q)
  have hjl : j < (La y).length := (List.getElem?_eq_some_iff.mp (hj y)).1
  have hil : i < (Γ s1).length := (List.getElem?_eq_some_iff.mp (hΓ s1)).1
  have ei : (La y ++ (T ++ Γ s1))[(La y).length + (T.length + i)]? = some (aAt v0 (A (get s1))) := get_app (get_app (hΓ s1))
  have ej : (La y ++ (T ++ Γ s1))[j]? = some (aV v0) := by rw [List.getElem?_append_left hjl]; exact hj y
  have hvj : vs[j]? = some v0 := by
    obtain ⟨o, F, O, q1, _, _, q4, _⟩ := h1.get ej
    rw [List.getElem?_append_left (by rw [List.length_map, hn]; exact hjl), List.getElem?_map] at q1
    cases z : vs[j]? with
    | none => rw [z] at q1; cases q1
    | some u =>
      rw [z] at q1
      have e1 : some u = o := Option.some.inj q1
      rw [← e1] at q4
      exact q4
  have h2 := h1.give (by omega) ei ej
  have e2 : ((La y ++ (T ++ Γ s1)).set ((La y).length + (T.length + i)) (aV v0)).set j (aAt v0 (A (get s1))) = (La y).set j (aAt v0 (A (get s1))) ++ (T ++ (Γ s1).set i (aV v0)) := by
    rw [List.set_append_right _ _ (by omega), List.set_append_left _ _ hjl, Nat.add_sub_cancel_left, List.set_append_right _ _ (by omega), Nat.add_sub_cancel_left]
  rw [e2] at h2
  have h3 : Hold B X.K ((La y).set j (A (get s1)) ++ (T ++ (Γ s1).set i (aV v0))) (vs.map some ++ (ts ++ σ)) H1 := by
    refine h2.weak (by simp) fun n A' z => ?_
    by_cases hn : n < (La y).length
    · rw [List.getElem?_append_left (by simpa using hn)] at z ⊢
      by_cases hnj : n = j
      · subst hnj
        rw [List.getElem?_set_self hjl] at z ⊢
        cases z
        exact ⟨_, rfl, .inr fun F O o _ h => h.2⟩
      · rw [List.getElem?_set_ne (Ne.symm hnj)] at z ⊢
        exact ⟨A', z, .inr fun F O o _ h => h⟩
    · rw [List.getElem?_append_right (by simpa using hn)] at z ⊢
      simp only [List.length_set] at z ⊢
      exact ⟨A', z, .inr fun F O o _ h => h⟩
  obtain ⟨B1, e1, h4, h5⟩ := h3.split (by simp [hn])
  rw [List.append_nil]
  refine ⟨kx y (get s1), B1, e1, by rw [hL y]; exact h4, ?_⟩
  rw [show (cio get put fun w => fm (kx y w)) s1 = (fm (kx y (get s1))).put (put s1) from rfl, Rs.wp_put] at q
  -- what was handed over comes back
  have back : ∀ {w : Ω} {H2 : Hp} {L : List As} {ls : List (Option V)}, Hold B X.K (A w :: L ++ (T ++ (Γ s1).set i (aV v0))) (some v0 :: ls ++ (ts ++ σ)) H2 → L.length = ls.length → Hold B X.K (L ++ (T ++ Γ (put s1 w))) (ls ++ (ts ++ σ)) H2 := by
    intro w H2 L ls h6 hll
    have h7 : Hold B X.K (aAt v0 (A w) :: (L ++ (T ++ (Γ s1).set i (aV v0)))) (some v0 :: (ls ++ (ts ++ σ))) H2 := Hold.imp0 h6 fun F O z _ => ⟨rfl, z⟩
    have e3 : (aAt v0 (A w) :: (L ++ (T ++ (Γ s1).set i (aV v0))))[1 + (L.length + (T.length + i))]? = some (aV v0) := by
      rw [Nat.add_comm 1, List.getElem?_cons_succ]
      exact get_app (get_app (List.getElem?_set_self hil))
    have h8 := h7.give (i := 0) (j := 1 + (L.length + (T.length + i))) (by omega) rfl e3
    have e4 : ((aAt v0 (A w) :: (L ++ (T ++ (Γ s1).set i (aV v0)))).set 0 (aV v0)).set (1 + (L.length + (T.length + i))) (aAt v0 (A w)) = aV v0 :: (L ++ (T ++ Γ (put s1 w))) := by
      rw [hput, Nat.add_comm 1]
      show aV v0 :: ((L ++ (T ++ (Γ s1).set i (aV v0))).set (L.length + (T.length + i)) (aAt v0 (A w))) = _
      rw [List.set_append_right _ _ (by omega), Nat.add_sub_cancel_left, List.set_append_right _ _ (by omega), Nat.add_sub_cancel_left, List.set_set]
    rw [e4] at h8
    exact h8.pop
  have ej2 : ([j].map fun j => vs[j]?) = [some v0] := by rw [List.map_singleton, hvj]
  rw [ej2]
  refine q.mono (fun b w q v H2 h6 => q v H2 ?_) fun ex w q C d H2 hx => q C d H2 ?_
  · have h7 := h5 _ _ H2 h6
    have h8 : Hold B X.K (A w :: [pres b] ++ (T ++ (Γ s1).set i (aV v0))) (some v0 :: [some v] ++ (ts ++ σ)) H2 := Hold.front (L1 := [pres b]) (v1 := [some v]) h7 rfl
    exact back h8 rfl
  · obtain ⟨z1, c, dx, fs, z2, z3, z4, z5, z6⟩ := hx
    exact ⟨z1, c, dx, fs, z2, z3, z4, back (L := []) (ls := []) (h5 _ _ H2 z5) rfl, z6⟩
end

/-! ### built-ins by values -/
def Bl1 (r : List V → Hp → VK → Prop) (K : PySem.W.Frag) (La : α → List As) (f : α → Option γ) (Pc : γ → As) : Prop := ∀ (B : Ent) (L : List As) (ls : List (Option V)) (H : Hp) (x : α) (vs : List V) (c : γ) (Q : VK), vs.length = (La x).length →
  Hold B K (La x ++ L) (vs.map some ++ ls) H → f x = some c → (∀ w H', Hold B K (Pc c :: L) (some w :: ls) H' → Q w H') → r vs H Q
theorem ex_callB {id : String} {x : Str} {p : Pos} {r : List V → Hp → VK → Prop} {La : α → List As} {f : α → Option γ} {Pc : γ → As} (hc : CallR X (.builtin id) r) (h1 : Bl1 r X.K La f Pc) (hm : X.mg x = none) (ha : Ea X W Γ (e :: es) m La) (hv : bootBuiltins x = some (.builtin id) := by decide +kernel) (hg : Gl X x := by rfl)
    (hn : x ≠ "__name__" := by decide) (hdb : (x == ("__debug__" : Str)) = false := by decide) (he : starEach (e :: es) X.env = (false, eval e X.env) :: starEach es X.env := by rfl) (hpl : (backTo pos (starEach es X.env)).any (·.1) = false := by rfl) :
    Ex X W Γ (.Call (.Name x p) (e :: es) [] pos) (m >>= fun y => lf (f y)) Pc := by
  obtain ⟨t, ht, hr'⟩ := ha
  refine ⟨_, pe_callB hc hg hm hv ht hn hdb he hpl, fun B T ts σ H Q s hl hh hw => ?_⟩
  rw [bind_wp] at hw
  refine hr' B T ts σ H _ s hl hh (hw.mono (fun y s1 q vs H1 hn h1' => ?_) fun _ _ q => q)
  obtain ⟨c, e, q⟩ := lf_wp.mp q
  exact h1 B _ _ H1 y vs c Q hn h1' e q
theorem ex_callT {TT : String} {x : Str} {p : Pos} {r : List V → Hp → VK → Prop} {La : α → List As} {f : α → Option γ} {Pc : γ → As} (hc : CallR X (.type TT) r) (h1 : Bl1 r X.K La f Pc) (hm : X.mg x = none) (ha : Ea X W Γ (e :: es) m La) (hv : bootBuiltins x = some (.type TT) := by decide +kernel) (hg : Gl X x := by rfl)
    (hn : x ≠ "__name__" := by decide) (hdb : (x == ("__debug__" : Str)) = false := by decide) (he : starEach (e :: es) X.env = (false, eval e X.env) :: starEach es X.env := by rfl) (hpl : (backTo pos (starEach es X.env)).any (·.1) = false := by rfl) :
    Ex X W Γ (.Call (.Name x p) (e :: es) [] pos) (m >>= fun y => lf (f y)) Pc := by
  obtain ⟨t, ht, hr'⟩ := ha
  refine ⟨_, pe_callTy hc hg hm hv ht hn hdb he hpl, fun B T ts σ H Q s hl hh hw => ?_⟩
  rw [bind_wp] at hw
  refine hr' B T ts σ H _ s hl hh (hw.mono (fun y s1 q vs H1 hn h1' => ?_) fun _ _ q => q)
  obtain ⟨c, e, q⟩ := lf_wp.mp q
  exact h1 B _ _ H1 y vs c Q hn h1' e q
/-- a method of a built-in type, its object holding nothing of its own -/
def Mt1 (r : V → List V → Hp → VK → Prop) (K : PySem.W.Frag) (TT : String) (Pa : α → As) (La : β → List As) (f : α → β → Option γ) (Pc : γ → As) : Prop := ∀ (B : Ent) (L : List As) (ls : List (Option V)) (H : Hp) (x : α) (y : β) (v : V) (vs : List V) (c : γ) (Q : VK), vs.length = (La y).length →
  Hold B K (La y ++ Pa x :: L) (vs.map some ++ some v :: ls) H → f x y = some c → (∀ w H', Hold B K (Pc c :: L) (some w :: ls) H' → Q w H') → r v vs H Q
def Ty1 (K : PySem.W.Frag) (TT : String) (A : As) : Prop := ∀ B L ls H v, Hold B K (A :: L) (some v :: ls) H → tyV K TT v H
theorem ex_bm {TT name id : String} {apos : Pos} {o : Expr} {r : V → List V → Hp → VK → Prop} {Pa : α → As} {mo : M S α} {ma : M S β} {La : β → List As} {f : α → β → Option γ} {Pc : γ → As} (pa : PlainAttrs TT) (slot : Slot TT name id) (hty : typeOf (.builtin id) = pure (.type "method_descriptor")) (hm : MtR X id r) (h1 : Mt1 r X.K TT Pa La f Pc) (ht : ∀ x, Ty1 X.K TT (Pa x))
    (ho : Ex X W Γ o mo Pa) (ha : Ea X W Γ (e :: es) ma La) (hbase : attributeBase o name X.env (eval o X.env) = eval o X.env := by rfl)
    (hfew : ((backTo pos (starEach (e :: es) X.env)).all (fun x => !x.1) && (backToKw pos (keywordEach [] X.env)).all (fun x => x.1.isSome)
      && decide ((e :: es).length + ([] : List Keyword).length + (if ([] : List Keyword).isEmpty then 0 else 1) < 30)) = true := by rfl)
    (hline : (apos.endLine == pos.line) = true := by rfl) (hs : starEach (e :: es) X.env = (false, eval e X.env) :: starEach es X.env := by rfl) (hplain : (backTo pos (starEach es X.env)).any (·.1) = false := by rfl) :
    Ex X W Γ (.Call (.Attribute o name apos) (e :: es) [] pos) (mo >>= fun x => ma >>= fun y => lf (f x y)) Pc := by
  obtain ⟨to, po, ro⟩ := ho
  obtain ⟨ta, pa', ra⟩ := ha
  refine ⟨_, pe_bm pa slot hty hm po pa' hbase hfew hline hs hplain, fun B T ts σ H Q s hl hh hw => ?_⟩
  rw [bind_wp] at hw
  refine ro B T ts σ H _ s hl hh (hw.mono (fun x s1 q v H1 h2 => ⟨ht x B _ _ H1 v h2, ?_⟩) fun _ _ q => q)
  rw [bind_wp] at q
  refine ra B (Pa x :: T) (some v :: ts) σ H1 _ s1 (by simp only [List.length_cons, hl]) h2 (q.mono (fun y s2 q2 vs H2 hn h3 => ?_) fun x s2 q2 C d H3 hx => q2 C d H3 (hx.to fun z => z.pop))
  obtain ⟨c, e, q⟩ := lf_wp.mp q2
  exact h1 B _ _ H2 x y v vs c Q hn h3 e q
theorem ex_bm0 {TT name id : String} {apos : Pos} {o : Expr} {r : V → List V → Hp → VK → Prop} {Pa : α → As} {mo : M S α} {f : α → Option γ} {Pc : γ → As} (pa : PlainAttrs TT) (slot : Slot TT name id) (hty : typeOf (.builtin id) = pure (.type "method_descriptor")) (hm : MtR X id r) (h1 : Op1 X.K (fun v H Q => r v [] H Q) Pa f Pc) (ht : ∀ x, Ty1 X.K TT (Pa x))
    (ho : Ex X W Γ o mo Pa) (hbase : attributeBase o name X.env (eval o X.env) = eval o X.env := by rfl) (hline : (apos.endLine == pos.line) = true := by rfl) :
    Ex X W Γ (.Call (.Attribute o name apos) [] [] pos) (mo >>= fun x => lf (f x)) Pc := by
  obtain ⟨to, po, ro⟩ := ho
  refine ⟨_, pe_bm0 pa slot hty hm po hbase hline, fun B T ts σ H Q s hl hh hw => ?_⟩
  rw [bind_wp] at hw
  refine ro B T ts σ H _ s hl hh (hw.mono (fun x s1 q v H1 h2 => ⟨ht x B _ _ H1 v h2, ?_⟩) fun _ _ q => q)
  obtain ⟨c, e, q⟩ := lf_wp.mp q
  exact h1 B _ _ H1 x v c Q h2 e q
/-! ### items, slices -/
theorem ex_ix {r : R2} {Pa : α → As} {Pb : β → As} {ma : M S α} {mb : M S β} {f : α → β → Option γ} {Pc : γ → As} (hr : IxR X r) (h2 : Op2 X.K r Pa Pb f Pc) (ha : Ex X W Γ a ma Pa) (hb : Ex X W Γ b mb Pb) (hs : PlainIx b := by exact fun _ _ => rfl) :
    Ex X W Γ (.Subscript a b pos) (ma >>= fun x => mb >>= fun y => lf (f x y)) Pc := by
  obtain ⟨ta, pa, ra⟩ := ha
  obtain ⟨tb, pb, rb⟩ := hb
  refine ⟨_, pe_ix hr pa pb hs, fun B T ts σ H Q s hl hh hw => ?_⟩
  refine two_run (Rn := fun v u H2 => r v u H2 Q) ra rb hl hh (fun _ _ => Iff.rfl) hw fun x y s' v u H' h q => ?_
  obtain ⟨c, e, q⟩ := lf_wp.mp q
  exact h2 B _ _ H' x y v u c Q h e q
def EoR (X : Cx) (W : WX) (Γ : S → List As) (t : TO) (m : M S (Option Int)) : Prop := ∀ (B : Ent) (T : List As) (ts : List (Option V)) (σ : L2.St) (H : Hp) (Q : Option Int → Hp → Prop) (s : S), ts.length = T.length → Hold B X.K (T ++ Γ s) (ts ++ σ) H →
  (m s).wp (fun a s' => ∀ H', Hold B X.K (T ++ Γ s') (ts ++ σ) H' → Q a H') (fun x s' => ∀ C d H', HoldX X.mg B X.K x (T ++ Γ s') (ts ++ σ) C d H' → W C d σ H') → t σ H Q
/-- a part of a slice -/
def Eo (X : Cx) (W : WX) (Γ : S → List As) (e : Option Expr) (m : M S (Option Int)) : Prop := ∃ t, PO X e t ∧ EoR X W Γ t m
theorem eo_none : Eo X W Γ none (ret none) := ⟨_, po_none, fun B T ts σ H Q s hl hh hw => hw H hh⟩
theorem eo_some {m : M S Int} (h : Ex X W Γ e m aInt) : Eo X W Γ (some e) (m >>= fun i => ret (some i)) := by
  obtain ⟨t, ht, hr⟩ := h
  refine ⟨_, po_some ht, fun B T ts σ H Q s hl hh hw => ?_⟩
  rw [bind_wp] at hw
  exact hr B T ts σ H _ s hl hh (hw.mono (fun i s1 q v H1 h1 => ⟨i, Option.some.inj h1.v0, q H1 h1.pop⟩) fun _ _ q => q)
def Sl1 (K : PySem.W.Frag) (r : V → Option Int → Option Int → Hp → VK → Prop) (Pa : α → As) (f : α → Option Int → Option Int → Option γ) (Pc : γ → As) : Prop := ∀ (B : Ent) (L : List As) (vs : List (Option V)) (H : Hp) (x : α) (v : V) (lo hi : Option Int) (c : γ) (Q : VK),
  Hold B K (Pa x :: L) (some v :: vs) H → f x lo hi = some c → (∀ w H', Hold B K (Pc c :: L) (some w :: vs) H' → Q w H') → r v lo hi H Q
theorem ex_slice {r : V → Option Int → Option Int → Hp → VK → Prop} {lo hi : Option Expr} {p2 : Pos} {ma : M S α} {Pa : α → As} {ml mh : M S (Option Int)} {f : α → Option Int → Option Int → Option γ} {Pc : γ → As} (hr : SlR X r) (h1 : Sl1 X.K r Pa f Pc) (he : Ex X W Γ e ma Pa) (hl : Eo X W Γ lo ml) (hh : Eo X W Γ hi mh) :
    Ex X W Γ (.Subscript e (.Slice lo hi none p2) pos) (ma >>= fun x => ml >>= fun i => mh >>= fun j => lf (f x i j)) Pc := by
  obtain ⟨te, pe, re⟩ := he
  obtain ⟨tl, pl, rl⟩ := hl
  obtain ⟨th, ph, rh⟩ := hh
  refine ⟨_, pe_slice hr pe pl ph, fun B T ts σ H Q s hl hh hw => ?_⟩
  rw [bind_wp] at hw
  refine re B T ts σ H _ s hl hh (hw.mono (fun x s1 q v H1 h2 => ?_) fun _ _ q => q)
  rw [bind_wp] at q
  refine rl B (Pa x :: T) (some v :: ts) σ H1 _ s1 (by simp only [List.length_cons, hl]) h2 (q.mono (fun i s2 q2 H2 h3 => ?_) fun x s2 q2 C d H3 hx => q2 C d H3 (hx.to fun z => z.pop))
  rw [bind_wp] at q2
  refine rh B (Pa x :: T) (some v :: ts) σ H2 _ s2 (by simp only [List.length_cons, hl]) h3 (q2.mono (fun j s3 q3 H3 h4 => ?_) fun x s2 q2 C d H3 hx => q2 C d H3 (hx.to fun z => z.pop))
  obtain ⟨c, e, q⟩ := lf_wp.mp q3
  exact h1 B _ _ H3 x v i j c Q h4 e q
end
end G

set_option maxHeartbeats 4000000
/-! G4: operators, built-ins and methods over typed values. -/
namespace G
open PySem PySem.Spec PyProof.Rows L2
open SX (S_len S_cat)
abbrev SZ : Nat := 16777216
theorem SZ_eq : sizeLine = SZ := by rw [sizeLine_eq]
section
variable {X : Cx} {W : WX} {S α β γ : Type} {K : PySem.W.Frag}
theorem Hold.vv {B : Ent} {A C : V} {L : List As} {o o' : Option V} {vs : List (Option V)} {H : Hp} (h : Hold B K (aV C :: aV A :: L) (o' :: o :: vs) H) : o = some A ∧ o' = some C := ⟨h.pop.v0, h.v0⟩
theorem Hold.res {B : Ent} {A C D : As} {L : List As} {o o' : Option V} {vs : List (Option V)} {H : Hp} (h : Hold B K (C :: A :: L) (o' :: o :: vs) H) (w : V) : Hold B K (aV w :: L) (some w :: vs) H := h.pop.pop.pushV w
/-- two scalars -/
theorem op2_v {r : R2} {va : α → V} {vb : β → V} {vc : γ → V} {f : α → β → Option γ} (k : ∀ x y c H Q, f x y = some c → Q (vc c) H → r (va x) (vb y) H Q) : Op2 K r (fun x => aV (va x)) (fun y => aV (vb y)) f (fun c => aV (vc c)) := by
  intro B L vs H x y v u c Q h e q
  obtain ⟨h1, h2⟩ := h.vv
  cases h1; cases h2
  exact k x y c H Q e (q _ H (h.res (D := aNo) _))
theorem op1_v {r : V → Hp → VK → Prop} {va : α → V} {vc : γ → V} {f : α → Option γ} (k : ∀ x c H Q, f x = some c → Q (vc c) H → r (va x) H Q) : Op1 K r (fun x => aV (va x)) f (fun c => aV (vc c)) := by
  intro B L vs H x v c Q h e q
  have h1 := h.v0
  cases h1
  exact k x c H Q e (q _ H (h.pop.pushV _))
/-! ### whole numbers -/
theorem o_int {h : Int → Int → Int} : Op2 K (rI0 fun i j => .int (h i j)) aInt aInt (fun i j => some (h i j)) aInt := op2_v fun x y c H Q e q => by cases e; exact ⟨x, y, rfl, rfl, q⟩
theorem o_intC {C : Int → Int → Prop} [∀ i j, Decidable (C i j)] {h : Int → Int → Int} : Op2 K (rI C fun i j => .int (h i j)) aInt aInt (fun i j => if C i j then some (h i j) else none) aInt := op2_v fun x y c H Q e q => by
  split at e
  · rename_i hc
    cases e
    exact ⟨x, y, rfl, rfl, hc, q⟩
  · cases e
theorem o_cmpI {p : Int → Int → Bool} : Op2 K (rI0 fun i j => .bl (p i j)) aInt aInt (fun i j => some (p i j)) aBl := op2_v fun x y c H Q e q => by cases e; exact ⟨x, y, rfl, rfl, q⟩
theorem o_eqI : Op2 K rEq aInt aInt (fun i j => some (decide (i = j))) aBl := op2_v fun x y c H Q e q => by
  cases e
  exact ⟨rfl, by rw [dec_int, Bool.beq_eq_decide_eq]; exact q⟩
theorem o_neI : Op2 K rNe aInt aInt (fun i j => some (!decide (i = j))) aBl := op2_v fun x y c H Q e q => by
  cases e
  exact ⟨rfl, by rw [dec_int, Bool.beq_eq_decide_eq]; exact q⟩
theorem o_eqB : Op2 K rEq aBl aBl (fun i j => some (i == j)) aBl := op2_v fun x y c H Q e q => by
  cases e
  exact ⟨rfl, by rw [dec_bl]; exact q⟩
theorem sx_dec {a b : Tx} : decide (V.str (sx a) = V.str (sx b)) = decide (a = b) := by
  by_cases h : a = b
  · subst h; simp
  · rw [decide_eq_false h, decide_eq_false]
    intro z
    exact h (SX.S_inj (V.str.inj z))
theorem o_eqS : Op2 K rEq aStr aStr (fun i j => some (decide (i = j))) aBl := op2_v fun x y c H Q e q => by
  cases e
  exact ⟨rfl, by rw [sx_dec]; exact q⟩
theorem o_neS : Op2 K rNe aStr aStr (fun i j => some (!decide (i = j))) aBl := op2_v fun x y c H Q e q => by
  cases e
  exact ⟨rfl, by rw [sx_dec]; exact q⟩
theorem o_neg : Op1 K (rU fun i => .int (-i)) aInt (fun i => some (-i)) aInt := op1_v fun x c H Q e q => by cases e; exact ⟨x, rfl, q⟩
/-- products, floors of any size below a million bits -/
def mulOk (i j : Int) : Bool := decide ((-(2 ^ 64) < i ∧ i < 2 ^ 64) ∨ (-(2 ^ 64) < j ∧ j < 2 ^ 64))
instance {i j : Int} : Decidable (CMul i j) := by unfold CMul; infer_instance
instance {i j : Int} : Decidable (CPow i j) := by unfold CPow; infer_instance
instance {i j : Int} : Decidable (CDiv i j) := by unfold CDiv; infer_instance
instance {i j : Int} : Decidable (CDivN i j) := by unfold CDivN; infer_instance
/-! ### texts -/
def catT (a b : Tx) : Option Tx := if a.length + b.length ≤ SZ then some (a ++ b) else none
theorem o_catT : Op2 K (fun x y H Q => ∃ i j, x = .str i ∧ y = .str j ∧ i.length + j.length ≤ sizeLine ∧ Q (.str (i ++ j)) H) aStr aStr catT aStr := op2_v fun x y c H Q e q => by
  unfold catT at e
  split at e
  · rename_i h
    cases e
    exact ⟨sx x, sx y, rfl, rfl, by rw [SZ_eq, S_len, S_len]; exact h, by rw [S_cat]; exact q⟩
  · cases e
/-- s * n -/
def repT (a : Tx) (n : Int) : Option Tx := if -(2 ^ 63) ≤ n ∧ n < 2 ^ 63 ∧ a.length * n.toNat ≤ SZ then some (List.replicate n.toNat a).flatten else none
theorem flat_cps (x : Array Nat) : ∀ (n : Nat) (acc : Array Nat), ((List.replicate n x).foldl (· ++ ·) acc).toList = acc.toList ++ (List.replicate n x.toList).flatten
  | 0, acc => by simp
  | n + 1, acc => by
    rw [List.replicate_succ, List.foldl_cons, flat_cps x n, List.replicate_succ, List.flatten_cons, Array.toList_append, List.append_assoc]
theorem mul_sx (a : Tx) {n : Int} : Txt.mul (sx a) n = sx (List.replicate n.toNat a).flatten := by
  unfold Txt.mul
  by_cases h : n < 1
  · rw [if_pos h, show n.toNat = 0 by omega]
    rfl
  · rw [if_neg h]
    by_cases h2 : (n == 1 || (sx a).length == 0) = true
    · rw [if_pos h2]
      rcases Bool.or_eq_true_iff.mp h2 with h3 | h3
      · have : n = 1 := by simpa using h3
        subst this
        simp
      · have h4 : a.length = 0 := by
          have h5 : (sx a).length = 0 := beq_iff_eq.mp h3
          rw [← S_len a]; exact h5
        have : a = [] := List.length_eq_zero_iff.mp h4
        subst this
        simp
    · rw [if_neg h2]
      refine TL.ext_tl ?_
      show ((List.replicate n.toNat (sx a).cps).foldl (· ++ ·) #[]).toList = _
      rw [flat_cps]
      simp
def rRepT : R2 := fun x y H Q => ∃ a n, x = .str (sx a) ∧ y = .int n ∧ -(2 ^ 63) ≤ n ∧ n < 2 ^ 63 ∧ a.length * n.toNat ≤ SZ ∧ Q (.str (sx (List.replicate n.toNat a).flatten)) H
theorem op_repT : OpR X (binaryOp .Mult) rRepT := by
  intro pins s σ H x y v u Q I rx ry h
  obtain ⟨a, n, rfl, rfl, h1, h2, h3, q⟩ := h
  obtain ⟨t, rfl⟩ := rx
  obtain ⟨t', rfl⟩ := ry
  refine SB.mul (x := sx a) ⟨by rw [decide_eq_false (by omega), decide_eq_false (by omega)]; rfl, fun h4 _ => ?_, fun h4 _ => ?_⟩ fun t' k => ⟨.str _, H, I.tok k, ⟨t', rfl⟩, by rw [mul_sx]; exact q⟩
  · rw [S_len]
    intro z
    have h5 : (1 : Int) ≤ n := by omega
    have h6 : ((2 : Int) ^ 63 - 1) / n < (a.length : Int) := z
    have h7 : ((2 : Int) ^ 63 - 1) < n * (a.length : Int) := by
      have := Int.lt_mul_of_ediv_lt (by omega : (0 : Int) < n) h6
      rw [Int.mul_comm] at this; exact this
    have h8 : ((a.length * n.toNat : Nat) : Int) = n * (a.length : Int) := by
      rw [Int.natCast_mul, Int.toNat_of_nonneg (by omega), Int.mul_comm]
    have h9 : ((a.length * n.toNat : Nat) : Int) ≤ (SZ : Nat) := by exact_mod_cast h3
    have : (2 : Int) ^ 63 - 1 < SZ := by rw [h8] at h9; exact Int.lt_of_lt_of_le h7 h9
    exact absurd this (by decide)
  · show decide (_ > sizeLine) = false
    rw [SZ_eq, S_len]
    exact decide_eq_false (Nat.not_lt.mpr h3)
theorem o_repT : Op2 K rRepT aStr aInt repT aStr := op2_v fun x y c H Q e q => by
  unfold repT at e
  split at e
  · rename_i h
    cases e
    exact ⟨x, y, rfl, rfl, h.1, h.2.1, h.2.2, q⟩
  · cases e
def lenT (a : Tx) : Option Int := if a.length ≤ SZ then some a.length else none
theorem b_lenT : Bl1 (fun xs H Q => ∃ z, xs = [.str z] ∧ z.length ≤ sizeLine ∧ Q (.int z.length) H) K (fun z : Tx × Unit => [aStr z.1]) (fun z => lenT z.1) aInt := by
  intro B L ls H x vs c Q hn h e q
  match vs, hn with
  | [v], _ =>
    have h1 : some v = some (.str (sx x.1)) := h.v0
    cases h1
    have e : (if x.1.length ≤ SZ then some (x.1.length : Int) else none) = some c := e
    split at e
    · rename_i hl
      cases e
      refine ⟨sx x.1, rfl, by rw [SZ_eq, S_len]; exact hl, ?_⟩
      rw [S_len]
      exact q _ H (h.pop.pushV _)
    · cases e
/-- s[i] -/
def ixT (a : Tx) (i : Int) : Option Tx := if a.length ≤ SZ then (atI a i).map fun c => [c] else none
theorem o_ixT : Op2 K rIxS aStr aInt ixT aStr := op2_v fun x y c H Q e q => by
  unfold ixT at e
  split at e
  · rename_i h
    cases z : atI x y with
    | none => rw [z] at e; cases e
    | some d =>
      rw [z] at e
      cases e
      exact ⟨sx x, y, d, rfl, rfl, by rw [SZ_eq, S_len]; exact h, z, q⟩
  · cases e
/-- s[a:b] -/
def cutT (a : Tx) (lo hi : Option Int) : Option Tx := if a.length ≤ SZ then some ((a.drop (HT.sIx a.length 0 lo)).take (HT.sIx a.length a.length hi - HT.sIx a.length 0 lo)) else none
theorem o_cutT : Sl1 K rSlS aStr cutT aStr := by
  intro B L vs H x v lo hi c Q h e q
  have h1 := h.v0
  cases h1
  unfold cutT at e
  split at e
  · rename_i hl
    cases e
    refine ⟨sx x, rfl, by rw [SZ_eq, S_len]; exact hl, ?_⟩
    have := q _ H (h.pop.pushV (.str (sx ((x.drop (HT.sIx x.length 0 lo)).take (HT.sIx x.length x.length hi - HT.sIx x.length 0 lo)))))
    unfold cutS
    rw [S_len]
    exact this
  · cases e
def inT1 (c z : Tx) : Option Bool := match c with
  | [d] => some (decide (d ∈ z))
  | _ => none
def notInT1 (c z : Tx) : Option Bool := match c with
  | [d] => some (!decide (d ∈ z))
  | _ => none
theorem o_inT : Op2 K (fun x y H Q => ∃ (c : Nat) (z : Str), x = .str ⟨#[c]⟩ ∧ y = .str z ∧ Q (.bl (decide (c ∈ z.cps.toList))) H) aStr aStr inT1 aBl := op2_v fun x y c H Q e q => by
  match x, e with
  | [d], e => cases e; exact ⟨d, sx y, rfl, rfl, q⟩
theorem o_notInT : Op2 K (fun x y H Q => ∃ (c : Nat) (z : Str), x = .str ⟨#[c]⟩ ∧ y = .str z ∧ Q (.bl (!decide (c ∈ z.cps.toList))) H) aStr aStr notInT1 aBl := op2_v fun x y c H Q e q => by
  match x, e with
  | [d], e => cases e; exact ⟨d, sx y, rfl, rfl, q⟩
/-- s <= t, s < t -/
theorem o_leT : Op2 K (fun x y H Q => ∃ i j, x = .str i ∧ y = .str j ∧ Q (.bl (!decide (j.cps.toList < i.cps.toList))) H) aStr aStr (fun a b => some (!decide (b < a))) aBl := op2_v fun x y c H Q e q => by cases e; exact ⟨sx x, sx y, rfl, rfl, q⟩
theorem o_ltT : Op2 K (fun x y H Q => ∃ i j, x = .str i ∧ y = .str j ∧ Q (.bl (decide (i.cps.toList < j.cps.toList))) H) aStr aStr (fun a b => some (decide (a < b))) aBl := op2_v fun x y c H Q e q => by cases e; exact ⟨sx x, sx y, rfl, rfl, q⟩
/-! ### lists and tuples of alike items -/
abbrev aT (P : α → As) : List α → As := fun xs => aTu (xs.map P)
abbrev aF (P : α → As) : List α → As := fun xs => aFl (xs.map P)
abbrev aL (P : α → As) : List α → As := fun xs => aLs (xs.map P)
theorem AllR.get {F : Hp} {P : α → As} : ∀ {xs : List α} {vs : List V} {i : Nat} {x : α}, AllR K F (xs.map P) vs → xs[i]? = some x → ∃ v, vs[i]? = some v ∧ (P x).rep K F emp (some v)
  | [], _, _, _, _, e => by simp at e
  | y :: ys, _, 0, x, .cons r _, e => by
    simp at e
    subst e
    exact ⟨_, rfl, r⟩
  | y :: ys, _, i + 1, x, .cons _ t, e => by
    obtain ⟨v, h1, h2⟩ := AllR.get (i := i) t (by simpa using e)
    exact ⟨v, by simpa using h1, h2⟩
theorem AllR.len {F : Hp} {L : List As} {vs : List V} (h : AllR K F L vs) : L.length = vs.length := Paired.length h
theorem frz_list {L : List As} : Frz (aLs L) (aFl L) := by
  intro K F O o ⟨p, vs, h1, h2, h3⟩ d
  subst h2
  exact ⟨rfl, p, vs, h1, .inl (.inl (jn_r d.symm _ _ one_at)), AllR.ext jn_l h3⟩
/-- its items can be read: a tuple or a list of either sort -/
class Sq (A : As) (L : outParam (List As)) : Prop where
  rd : ∀ {K F O o H}, A.rep K F O o → Ext F H → Ext O H → ∃ a vs, o = some (.ref a) ∧ (SqL K H a vs ∨ SqT K H a vs) ∧ AllR K F L vs
instance {L : List As} : Sq (aTu L) L := ⟨fun ⟨_, a, vs, h1, h2, h3⟩ e _ => ⟨a, vs, h1, .inr (seqT_ext e h2), h3⟩⟩
instance {L : List As} : Sq (aFl L) L := ⟨fun ⟨_, a, vs, h1, h2, h3⟩ e _ => ⟨a, vs, h1, .inl (seqL_ext e h2), h3⟩⟩
instance {L : List As} : Sq (aLs L) L := ⟨fun ⟨p, vs, h1, h2, h3⟩ _ e => ⟨p, vs, h1, .inl (.inl (.inl (e _ _ (by rw [h2]; exact one_at)))), h3⟩⟩
theorem b_lenQ {Pa : α → As} {P : β → As} {xs : α → List β} (hs : ∀ x, Sq (Pa x) ((xs x).map P)) : Bl1 (fun vs H Q => ∃ p ys, vs = [.ref p] ∧ (SqL K H p ys ∨ SqT K H p ys) ∧ Q (.int ys.length) H) K (fun z : α × Unit => [Pa z.1]) (fun z => some ((xs z.1).length : Int)) aInt := by
  intro B L ls H x vs c Q hn h e q
  match vs, hn with
  | [v], _ =>
    cases e
    obtain ⟨F, O, eF, eO, r⟩ := Hold.get0 (L := L) h
    obtain ⟨a, ws, h1, h2, h3⟩ := (hs x.1).rd r eF eO
    cases h1
    have hl := h3.len
    rw [List.length_map] at hl
    exact ⟨a, ws, rfl, h2, by rw [← hl]; exact q _ H (h.pop.pushV _)⟩
/-- xs[i] -/
theorem o_ixQ {P : β → As} {r : R2} {Pa : List β → As} (hr : ∀ x y H Q, (∃ p xs i v, x = .ref p ∧ y = .int i ∧ (SqL K H p xs ∨ SqT K H p xs) ∧ atI xs i = some v ∧ Q v H) → r x y H Q) (hs : ∀ x, Sq (Pa x) (x.map P)) (hp : ∀ x, Pers (Pa x)) :
    Op2 K r Pa aInt (fun xs i => atI xs i) P := by
  intro B L vs H x y v u c Q h e q
  have hu := h.v0
  cases hu
  have h1 := h.pop
  obtain ⟨F, eF, rd, put, _⟩ := h1.view
  obtain ⟨o, O, q1, eO, q2⟩ := rd 0 _ rfl
  cases q1
  obtain ⟨a, ws, z1, z2, z3⟩ := (hs x).rd q2 eF eO
  cases z1
  have hl := z3.len
  rw [List.length_map] at hl
  have e : (ixN x.length y).bind (fun j => x[j]?) = some c := e
  cases zz : ixN x.length y with
  | none => rw [zz] at e; cases e
  | some n =>
    rw [zz] at e
    have e : x[n]? = some c := e
    obtain ⟨w, w1, w2⟩ := z3.get e
    exact hr _ _ _ _ ⟨a, ws, y, w, rfl, rfl, z2, by show (ixN ws.length y).bind _ = _; rw [← hl, zz]; exact w1, q w H (put _ _ w2).drop1⟩
end
end G

set_option maxHeartbeats 4000000
/-! G5: blocks. -/
namespace G
open PySem PySem.Spec PyProof.Rows L2
/-! ### how a block ends -/
inductive Kd where
  | nx (Γ : List As)
  | bk (Γ : List As)
  | ct (Γ : List As)
  | rt (A : As) (io : List As) (iv : List V)
abbrev EhT (Ω : Type) := Exn → Ω → Ent → List As → List (Option V) → L2.St → Value → Option Addr → Hp → Prop
/-- what an exception leaves to a def's caller: the parameters that are handed back -/
def ehF {Ω : Type} (mg : Str → Option Value) (K : PySem.W.Frag) (pio : Ω → List As) (iv : List V) : EhT Ω := fun x w B _ _ _ C d H => HoldX mg B K x (pio w) (iv.map some) C d H
def EhOk {S Ω : Type} (X : Cx) (Γ : S → List As) (π : S → Ω) (Eh : EhT Ω) : Prop := ∀ s x B T ts σ C d H, ts.length = T.length → HoldX X.mg B X.K x (T ++ Γ s) (ts ++ σ) C d H → Eh x (π s) B T ts σ C d H
/-- what is handed back can be read off the context -/
def IoOk {S Ω : Type} (K : PySem.W.Frag) (Γ : S → List As) (π : S → Ω) (pio : Ω → List As) (iv : List V) : Prop := ∀ s B T ts σ H, ts.length = T.length → Hold B K (T ++ Γ s) (ts ++ σ) H → Hold B K (T ++ pio (π s)) (ts ++ iv.map some) H
theorem Hold.tail {B : Ent} {K : PySem.W.Frag} {T L L' : List As} {ts vs vs' : List (Option V)} {H : Hp} (hl : ts.length = T.length) (h : Hold B K (T ++ L) (ts ++ vs) H) (f : Nat → Nat) (hf : ∀ i j, i < L'.length → j < L'.length → f i = f j → i = j) (hl' : L'.length = vs'.length) (k : ∀ (i : Nat) (A : As), L'[i]? = some A → L[f i]? = some A ∧ ∀ o, vs[f i]? = some o → vs'[i]? = some o) : Hold B K (T ++ L') (ts ++ vs') H := by
  refine h.re (fun i => if i < T.length then i else T.length + f (i - T.length)) (fun i j hi hj e => ?_) (by simp; omega) fun i A e => .inr ?_
  · simp only [List.length_append] at hi hj
    split at e <;> split at e
    · exact e
    · omega
    · omega
    · have := hf (i - T.length) (j - T.length) (by omega) (by omega) (by omega)
      omega
  · by_cases hi : i < T.length
    · rw [if_pos hi]
      rw [List.getElem?_append_left hi] at e
      refine ⟨by rw [List.getElem?_append_left hi]; exact e, fun o q => ?_⟩
      rw [List.getElem?_append_left (by omega)] at q ⊢
      exact q
    · rw [if_neg hi]
      rw [List.getElem?_append_right (by omega)] at e
      obtain ⟨k1, k2⟩ := k _ A e
      refine ⟨get_app k1, fun o q => ?_⟩
      rw [List.getElem?_append_right (by omega), hl]
      exact k2 o (get_app' hl q)
theorem io0 {S Ω : Type} {K : PySem.W.Frag} {Γ : S → List As} {π : S → Ω} : IoOk K Γ π (fun _ => []) [] := fun s B T ts σ H hl h => h.tail hl (fun i => i) (fun i j hi _ _ => absurd hi (Nat.not_lt_zero i)) rfl fun i A e => by simp at e
theorem io1 {S Ω : Type} {K : PySem.W.Frag} {Γ : S → List As} {π : S → Ω} {A : Ω → As} {v : V} (i : Nat) (hΓ : ∀ s, (Γ s)[i]? = some (aAt v (A (π s)))) : IoOk K Γ π (fun w => [A w]) [v] := fun s B T ts σ H hl h => by
  obtain ⟨o, F, O, q1, _, _, q4, _⟩ := h.get (get_app (hΓ s))
  subst q4
  have z2 : Hold B K (T ++ [aAt v (A (π s))]) (ts ++ [some v]) H := h.tail hl (fun _ => i) (fun a b ha hb _ => by simp only [List.length_singleton] at ha hb; omega) rfl fun k C e => by
    cases k with
    | zero =>
      have e' : aAt v (A (π s)) = C := Option.some.inj e
      subst e'
      exact ⟨hΓ s, fun o q => by rw [get_app' hl q1] at q; exact q⟩
    | succ k => simp at e
  refine z2.weak (by simp) fun k C e => ?_
  by_cases hk : k < T.length
  · rw [List.getElem?_append_left hk] at e ⊢
    exact ⟨C, e, .inr fun _ _ _ _ z => z⟩
  · rw [List.getElem?_append_right (by omega)] at e ⊢
    cases hkk : k - T.length with
    | zero =>
      rw [hkk] at e
      have e' : A (π s) = C := Option.some.inj e
      subst e'
      exact ⟨_, rfl, .inr fun _ _ _ _ z => z.2⟩
    | succ n => rw [hkk] at e; simp at e
theorem IoOk.eh {S Ω : Type} {X : Cx} {Γ : S → List As} {π : S → Ω} {pio : Ω → List As} {iv : List V} (h : IoOk X.K Γ π pio iv) : EhOk X Γ π (ehF X.mg X.K pio iv) := fun s x B T ts σ C d H hl hx => hx.to fun z => Hold.drop (h s B T ts σ H hl z) hl.symm
theorem eh0 {X : Cx} {S Ω : Type} {Γ : S → List As} {π : S → Ω} : EhOk X Γ π (ehF X.mg X.K (fun _ => []) []) := io0.eh
section
variable (X : Cx) (W : WX) {S α β γ Ω o : Type}
def Post (B : Ent) (K : PySem.W.Frag) (T : List As) (ts : List (Option V)) (D : Ends) : Kd → Prop
  | .nx Γ => ∀ σ H, Hold B K (T ++ Γ) (ts ++ σ) H → D.nx σ H
  | .bk Γ => ∀ σ H, Hold B K (T ++ Γ) (ts ++ σ) H → D.bk σ H
  | .ct Γ => ∀ σ H, Hold B K (T ++ Γ) (ts ++ σ) H → D.ct σ H
  | .rt A io iv => ∀ v H, Hold B K (A :: (T ++ io)) (some v :: (ts ++ iv.map some)) H → D.rt v H
def BlR (Γ : S → List As) (t : TS) (m : S → Rs Ω o) (Z : o → Ω → Kd) (Eh : EhT Ω) : Prop := ∀ (B : Ent) (T : List As) (ts : List (Option V)) (σ : L2.St) (H : Hp) (D : Ends) (s : S), ts.length = T.length → Hold B X.K (T ++ Γ s) (ts ++ σ) H →
  (m s).wp (fun x w => Post B X.K T ts D (Z x w)) (fun x w => ∀ C d σ' H', Eh x w B T ts σ' C d H' → W C d σ' H') → t D σ H
/-- a block, from Γ -/
def Bl (Γ : S → List As) (ss : List Stmt) (m : S → Rs Ω o) (Z : o → Ω → Kd) (Eh : EhT Ω) : Prop := ∃ t, PSs X ss t ∧ BlR X W Γ t m Z Eh
end
/-- an expression's run, then the rest; π: what of the state is handed on with an exception -/
def bdo {S S2 Ω α o : Type} (π : S → Ω) (m : M S α) (mk : α → S → S2) (k : α → S2 → Rs Ω o) : S → Rs Ω o := fun s => match m s with
  | .ok a s' => k a (mk a s')
  | .er x s' => .er x (π s')
  | .st => .st
theorem bdo_wp {S S2 Ω α o : Type} {π : S → Ω} {m : M S α} {mk : α → S → S2} {k : α → S2 → Rs Ω o} {s : S} {P : o → Ω → Prop} {R : Exn → Ω → Prop} : (bdo π m mk k s).wp P R ↔ (m s).wp (fun a s' => (k a (mk a s')).wp P R) (fun x s' => R x (π s')) := by
  unfold bdo
  cases m s <;> exact Iff.rfl
section
variable {X : Cx} {W : WX} {S S2 α β γ Ω o : Type} {Γ : S → List As} {e : Expr} {rest : List Stmt} {pos : Pos} {P : α → As} {me : M S α} {Z : o → Ω → Kd} {Eh : EhT Ω} {π : S → Ω} {k : α → S2 → Rs Ω o} {mk : α → S → S2}
/-- whatever reading the block has -/
def tAnyS (X : Cx) (ss : List Stmt) : TS := fun D σ H => ∃ t, PSs X ss t ∧ t D σ H
theorem pss_any {ss : List Stmt} : PSs X ss (tAnyS X ss) := ⟨fun pins s σ H D I ⟨t, ht, h⟩ => ht.run pins s σ H D I h⟩
theorem Bl.any {ss : List Stmt} {m : S → Rs Ω o} (h : Bl X W Γ ss m Z Eh) : BlR X W Γ (tAnyS X ss) m Z Eh := by
  obtain ⟨t, ht, hr⟩ := h
  exact fun B T ts σ H D s hl hh hw => ⟨t, ht, hr B T ts σ H D s hl hh hw⟩
def tAnyE (X : Cx) (e : Expr) : TE := fun σ H Q => ∃ t, PE X e t ∧ t σ H Q
theorem pe_any {e : Expr} : PE X e (tAnyE X e) := ⟨fun pins s σ H Q I ⟨t, ht, h⟩ => ht.run pins s σ H Q I h⟩
theorem Ex.any (h : Ex X W Γ e me P) : ExR X W Γ (tAnyE X e) me P := by
  obtain ⟨t, ht, hr⟩ := h
  exact fun B T ts σ H D s hl hh hw => ⟨t, ht, hr B T ts σ H D s hl hh hw⟩
/-- items told more weakly -/
inductive WkL : List As → List As → Prop
  | nil : WkL [] []
  | same {A L L'} : WkL L L' → WkL (A :: L) (A :: L')
  | no {A L L'} : WkL L L' → WkL (A :: L) (aNo :: L')
  | co {A A' L L'} : Co A A' → WkL L L' → WkL (A :: L) (A' :: L')
theorem WkL.refl : ∀ {L : List As}, WkL L L
  | [] => .nil
  | _ :: _ => .same WkL.refl
theorem WkL.len {L L' : List As} (h : WkL L L') : L'.length = L.length := by
  induction h with
  | nil => rfl
  | same _ ih => simp [ih]
  | no _ ih => simp [ih]
  | co _ _ ih => simp [ih]
theorem WkL.at {L L' : List As} (h : WkL L L') : ∀ (i : Nat) (A' : As), L'[i]? = some A' → ∃ A, L[i]? = some A ∧ (A' = aNo ∨ Co A A') := by
  induction h with
  | nil => intro i A' e; simp at e
  | same _ ih =>
    intro i A' e
    cases i with
    | zero =>
      have e := Option.some.inj e
      subst e
      exact ⟨_, rfl, .inr fun _ _ _ _ h => h⟩
    | succ i => exact ih i A' e
  | no _ ih =>
    intro i A' e
    cases i with
    | zero =>
      have e := Option.some.inj e
      subst e
      exact ⟨_, rfl, .inl rfl⟩
    | succ i => exact ih i A' e
  | co c _ ih =>
    intro i A' e
    cases i with
    | zero =>
      have e := Option.some.inj e
      subst e
      exact ⟨_, rfl, .inr c⟩
    | succ i => exact ih i A' e
theorem Hold.wk {B : Ent} {K : PySem.W.Frag} {T L L' : List As} {vs : List (Option V)} {H : Hp} (h : Hold B K (T ++ L) vs H) (w : WkL L L') : Hold B K (T ++ L') vs H := by
  refine h.weak (by simp [w.len]) fun i A' e => ?_
  by_cases hi : i < T.length
  · rw [List.getElem?_append_left hi] at e ⊢
    exact ⟨A', e, .inr fun _ _ _ _ z => z⟩
  · rw [List.getElem?_append_right (by omega)] at e ⊢
    obtain ⟨A, e1, c⟩ := w.at _ A' e
    exact ⟨A, e1, c.imp id fun c F O o _ z => c _ F O o z⟩
/-- the block ends here -/
theorem bl_nil {m : S → Rs Ω o} {g : S → o} {L' : S → List As} (hm : ∀ s, m s = .ok (g s) (π s)) (hZ : ∀ s, Z (g s) (π s) = .nx (L' s)) (hw : ∀ s, WkL (Γ s) (L' s)) : Bl X W Γ [] m Z Eh :=
  ⟨_, pss_nil, fun B T ts σ H D s hl hh hw' => by
    rw [hm s] at hw'
    have hw' : Post B X.K T ts D (Z (g s) (π s)) := hw'
    rw [hZ s] at hw'
    exact hw' σ H (hh.wk (hw s))⟩
/-- the context told more weakly ahead of a block -/
theorem bl_wk {Γ' : S → List As} {ss : List Stmt} {m : S → Rs Ω o} (h : Bl X W Γ' ss m Z Eh) (hw : ∀ s, WkL (Γ s) (Γ' s)) : Bl X W Γ ss m Z Eh := by
  obtain ⟨t, ht, hr⟩ := h
  exact ⟨t, ht, fun B T ts σ H D s hl hh q => hr B T ts σ H D s hl (hh.wk (hw s)) q⟩
theorem set_app {T L : List As} {i : Nat} {A : As} : (T ++ L).set (T.length + i) A = T ++ L.set i A := by
  rw [List.set_append_right _ _ (by omega), Nat.add_sub_cancel_left]
theorem set_app' {ts σ : List (Option V)} {T : List As} (hl : ts.length = T.length) {i : Nat} {v : Option V} : (ts ++ σ).set (T.length + i) v = ts ++ σ.set i v := by
  rw [List.set_append_right _ _ (by omega), hl, Nat.add_sub_cancel_left]
/-- a temporary goes into a slot -/
theorem Hold.store {B : Ent} {K : PySem.W.Frag} {A : As} {T L : List As} {ts σ : List (Option V)} {v : V} {H : Hp} (hl : ts.length = T.length) (h : Hold B K (A :: (T ++ L)) (some v :: (ts ++ σ)) H) (i : Nat) : Hold B K (T ++ L.set i A) (ts ++ σ.set i (some v)) H := by
  have hn := h.len
  simp only [List.length_cons, List.length_append] at hn
  refine h.re (fun n => if n = T.length + i then 0 else n + 1) (fun a b _ _ e => ?_) (by simp; omega) fun n C e => ?_
  · split at e <;> split at e <;> omega
  · by_cases hni : n = T.length + i
    · subst hni
      rw [if_pos rfl]
      by_cases hi : i < L.length
      · rw [get_app (List.getElem?_set_self hi)] at e
        cases e
        refine .inr ⟨rfl, fun o q => ?_⟩
        cases q
        rw [← hl, List.getElem?_append_right (by omega), Nat.add_sub_cancel_left, List.getElem?_set_self (by omega)]
      · rw [List.getElem?_eq_none (by simp; omega)] at e
        cases e
    · rw [if_neg hni]
      refine .inr ⟨?_, fun o q => ?_⟩
      · rw [← set_app, List.getElem?_set_ne (Ne.symm hni)] at e
        simpa using e
      · rw [← set_app' hl, List.getElem?_set_ne (Ne.symm hni)]
        simpa using q
/-- x = e -/
theorem bl_set {x : Str} {pos' : Pos} (i : Nat) {Γ2 : α → S2 → List As} (he : Ex X W Γ e me P) (hEh : EhOk X Γ π Eh) (hk : ∀ a, Bl X W (Γ2 a) rest (k a) Z Eh) (hΓ : ∀ a s, (Γ s).set i (P a) = Γ2 a (mk a s))
    (hN : X.N.Nodup) (hi : X.N[i]? = some x := by rfl) (hx : Loc X.env.scope x := by first | exact Or.inl rfl | exact Or.inr rfl) (hs : swapsWith e (some (.Name x pos')) pos.line X.env = pure false := by rfl) (hf : X.fn x = true ∨ X.env.scope.names.lookup x = some .local := by first | exact .inl rfl | exact .inr rfl | assumption) :
    Bl X W Γ (.Assign [.Name x pos'] e pos :: rest) (bdo π me mk k) Z Eh := by
  obtain ⟨t, ht, hr⟩ := he
  refine ⟨_, pss_cons (ps_set hN hi hx ht hs hf) pss_any, fun B T ts σ H D s hl hh hw => ?_⟩
  rw [bdo_wp] at hw
  refine hr B T ts σ H _ s hl hh (hw.mono (fun a s1 q v H1 h1 => ?_) fun x s1 q C d H' hx => q C d σ H' (hEh s1 x B T ts σ C d H' hl hx))
  have h2 := h1.store hl i
  rw [hΓ a s1] at h2
  exact (hk a).any B T ts _ H1 D _ hl h2 q
/-- x = e, its object told -/
theorem bl_setP {x : Str} {pos' : Pos} (i : Nat) {Γ2 : V → α → S2 → List As} (he : Ex X W Γ e me P) (hEh : EhOk X Γ π Eh) (hk : ∀ v a, Bl X W (Γ2 v a) rest (k a) Z Eh) (hΓ : ∀ v a s, (Γ s).set i (aAt v (P a)) = Γ2 v a (mk a s))
    (hN : X.N.Nodup) (hi : X.N[i]? = some x := by rfl) (hx : Loc X.env.scope x := by first | exact Or.inl rfl | exact Or.inr rfl) (hs : swapsWith e (some (.Name x pos')) pos.line X.env = pure false := by rfl) (hf : X.fn x = true ∨ X.env.scope.names.lookup x = some .local := by first | exact .inl rfl | exact .inr rfl | assumption) :
    Bl X W Γ (.Assign [.Name x pos'] e pos :: rest) (bdo π me mk k) Z Eh := by
  obtain ⟨t, ht, hr⟩ := he
  refine ⟨_, pss_cons (ps_set hN hi hx ht hs hf) pss_any, fun B T ts σ H D s hl hh hw => ?_⟩
  rw [bdo_wp] at hw
  refine hr B T ts σ H _ s hl hh (hw.mono (fun a s1 q v H1 h1 => ?_) fun x s1 q C d H' hx => q C d σ H' (hEh s1 x B T ts σ C d H' hl hx))
  have h2 := Hold.store (A := aAt v (P a)) hl (h1.imp0 fun F O r _ => ⟨rfl, r⟩) i
  rw [hΓ v a s1] at h2
  exact (hk v a).any B T ts _ H1 D _ hl h2 q
/-- an expression whose value is dropped -/
theorem bl_expr {k : α → S → Rs Ω o} (he : Ex X W Γ e me P) (hEh : EhOk X Γ π Eh) (hk : ∀ a, Bl X W Γ rest (k a) Z Eh) (hs : swapsWith e none pos.line X.env = pure false := by rfl) : Bl X W Γ (.Expr e pos :: rest) (bdo π me (fun _ s => s) k) Z Eh := by
  obtain ⟨t, ht, hr⟩ := he
  refine ⟨_, pss_cons (ps_expr ht hs) pss_any, fun B T ts σ H D s hl hh hw => ?_⟩
  rw [bdo_wp] at hw
  refine hr B T ts σ H _ s hl hh (hw.mono (fun a s1 q v H1 h1 => ?_) fun x s1 q C d H' hx => q C d σ H' (hEh s1 x B T ts σ C d H' hl hx))
  exact (hk a).any B T ts _ H1 D _ hl h1.pop q
/-- return e -/
theorem bl_ret {g : α → o} {pio : Ω → List As} {iv : List V} (he : Ex X W Γ e me P) (hEh : EhOk X Γ π Eh) (hI : IoOk X.K Γ π pio iv) (hZ : ∀ a w, Z (g a) w = .rt (P a) (pio w) iv) : Bl X W Γ (.Return (some e) pos :: rest) (bdo π me (fun _ s => s) fun a s => .ok (g a) (π s)) Z Eh := by
  obtain ⟨t, ht, hr⟩ := he
  refine ⟨_, pss_cons (ps_ret ht) pss_never, fun B T ts σ H D s hl hh hw => ?_⟩
  rw [bdo_wp] at hw
  refine hr B T ts σ H _ s hl hh (hw.mono (fun a s1 q v H1 h1 => ?_) fun x s1 q C d H' hx => q C d σ H' (hEh s1 x B T ts σ C d H' hl hx))
  have q : Post B X.K T ts D (Z (g a) (π s1)) := q
  rw [hZ] at q
  exact q v H1 (hI s1 B (P a :: T) (some v :: ts) σ H1 (by simp [hl]) h1)
/-- return -/
theorem bl_retN {g : o} {pio : Ω → List As} {iv : List V} (hI : IoOk X.K Γ π pio iv) (hZ : ∀ w, Z g w = .rt (aV .non) (pio w) iv) : Bl X W Γ (.Return none pos :: rest) (fun s => .ok g (π s)) Z Eh := by
  refine ⟨_, pss_cons ps_retN pss_never, fun B T ts σ H D s hl hh hw => ?_⟩
  have q : Post B X.K T ts D (Z g (π s)) := hw
  rw [hZ] at q
  exact q .non H (hI s B (aV .non :: T) (some .non :: ts) σ H (by simp [hl]) (hh.pushV _))
/-- return x, what x holds handed on -/
theorem bl_retM {x : Str} {g : S → o} {pio : Ω → List As} {iv : List V} {A : S → As} {v0 : V} (i : Nat) (hΓ : ∀ s, (Γ s)[i]? = some (aAt v0 (A s))) (hI : IoOk X.K (fun s => (Γ s).set i (aV v0)) π pio iv) (hZ : ∀ s, Z (g s) (π s) = .rt (A s) (pio (π s)) iv) (hN : X.N[i]? = some x := by rfl) (hv : Vis X.env.scope x := by first | exact Or.inl rfl | exact Or.inr (Or.inl rfl) | exact Or.inr (Or.inr rfl))
    (hd : (x == ("__debug__" : Str)) = false := by decide) (hcd : (x == ("__classdict__" : Str)) = false := by decide) {p : Pos} : Bl X W Γ (.Return (some (.Name x p)) pos :: rest) (fun s => .ok (g s) (π s)) Z Eh := by
  refine ⟨_, pss_cons (ps_ret (pe_var hN hv hd hcd)) pss_never, fun B T ts σ H D s hl hh hw => ?_⟩
  have q : Post B X.K T ts D (Z (g s) (π s)) := hw
  rw [hZ] at q
  obtain ⟨o, F, O, q1, _, _, q4, _⟩ := hh.get (get_app (hΓ s))
  subst q4
  refine ⟨v0, get_app' hl q1, q v0 H (hI s B (A s :: T) (some v0 :: ts) σ H (by simp [hl]) ?_)⟩
  have hi : i < (Γ s).length := (List.getElem?_eq_some_iff.mp (hΓ s)).1
  have h2 := (hh.pushV v0).give (i := T.length + i + 1) (j := 0) (by omega) (by rw [List.getElem?_cons_succ]; exact get_app (hΓ s)) rfl
  have e : ((aV v0 :: (T ++ Γ s)).set (T.length + i + 1) (aV v0)).set 0 (aAt v0 (A s)) = aAt v0 (A s) :: (T ++ (Γ s).set i (aV v0)) := by
    show aAt v0 (A s) :: ((T ++ Γ s).set (T.length + i) (aV v0)) = _
    rw [List.set_append_right _ _ (by omega), Nat.add_sub_cancel_left]
  rw [e] at h2
  exact h2.imp0 fun F O r _ => r.2
theorem bl_pass {m : S → Rs Ω o} (hk : Bl X W Γ rest m Z Eh) : Bl X W Γ (.Pass pos :: rest) m Z Eh := by
  obtain ⟨t, ht, hr⟩ := hk
  exact ⟨_, pss_cons ps_pass ht, hr⟩
theorem bl_doc {x : Str} {j : Nat} {p2 : Pos} {m : S → Rs Ω o} (hk : Bl X W Γ rest m Z Eh) : Bl X W Γ (.Expr (.Constant (.str x) j p2) pos :: rest) m Z Eh := by
  obtain ⟨t, ht, hr⟩ := hk
  exact ⟨_, pss_cons ps_doc ht, hr⟩
theorem bl_break {g : S → o} {L' : S → List As} (hZ : ∀ s, Z (g s) (π s) = .bk (L' s)) (hw : ∀ s, WkL (Γ s) (L' s)) : Bl X W Γ (.Break pos :: rest) (fun s => .ok (g s) (π s)) Z Eh :=
  ⟨_, pss_cons ps_break pss_never, fun B T ts σ H D s hl hh hw' => by
    have hw' : Post B X.K T ts D (Z (g s) (π s)) := hw'
    rw [hZ s] at hw'
    exact hw' σ H (hh.wk (hw s))⟩
theorem bl_continue {g : S → o} {L' : S → List As} (hZ : ∀ s, Z (g s) (π s) = .ct (L' s)) (hw : ∀ s, WkL (Γ s) (L' s)) : Bl X W Γ (.Continue pos :: rest) (fun s => .ok (g s) (π s)) Z Eh :=
  ⟨_, pss_cons ps_continue pss_never, fun B T ts σ H D s hl hh hw' => by
    have hw' : Post B X.K T ts D (Z (g s) (π s)) := hw'
    rw [hZ s] at hw'
    exact hw' σ H (hh.wk (hw s))⟩
/-! ### if -/
section
variable {c : Expr} {a b : List Stmt} {mc : M S Bool} {o2 : Type}
def NoNx (Z : o → Ω → Kd) : Prop := ∀ x w Γ, Z x w ≠ .nx Γ
/-- if c: a; rest. a does not come to its end -/
theorem bl_ifT {ma mr : S → Rs Ω o} (hc : Et X W Γ c mc) (hEh : EhOk X Γ π Eh) (ha : Bl X W Γ a ma Z Eh) (hr : Bl X W Γ rest mr Z Eh) (hn : NoNx Z) : Bl X W Γ (.If c a [] pos :: rest) (bdo π mc (fun _ s => s) fun k => if k = true then ma else mr) Z Eh := by
  obtain ⟨tc, pc, rc⟩ := hc
  obtain ⟨ta, pa, ra⟩ := ha
  obtain ⟨tr, pr, rr⟩ := hr
  refine ⟨_, pss_cons (ps_if pc pa pss_nil) pr, fun B T ts σ H D s hl hh hw => ?_⟩
  rw [bdo_wp] at hw
  refine rc B T ts σ H _ s hl hh (hw.mono (fun k s1 q H1 h1 => ?_) fun x s1 q C d H' hx => q C d σ H' (hEh s1 x B T ts σ C d H' hl hx))
  cases k with
  | true =>
    refine ra B T ts σ H1 { D with nx := tr D } s1 hl h1 (Rs.wp.mono q (fun x w q => ?_) fun _ _ q => q)
    cases z : Z x w with
    | nx Γ' => exact absurd z (hn x w Γ')
    | bk Γ' => rw [z] at q; exact q
    | ct Γ' => rw [z] at q; exact q
    | rt A io iv => rw [z] at q; exact q
  | false => exact rr B T ts σ H1 D s1 hl h1 q
/-- a's ways are some of the block's -/
def mpo (ι : o2 → o) (m : S → Rs Ω o2) : S → Rs Ω o := fun s => (m s).map ι
theorem bl_ifTm {ι : o2 → o} {ma : S → Rs Ω o2} {mr : S → Rs Ω o} (hc : Et X W Γ c mc) (hEh : EhOk X Γ π Eh) (ha : Bl X W Γ a ma (fun y w => Z (ι y) w) Eh) (hr : Bl X W Γ rest mr Z Eh) (hn : NoNx (fun y w => Z (ι y) w)) : Bl X W Γ (.If c a [] pos :: rest) (bdo π mc (fun _ s => s) fun k => if k = true then mpo ι ma else mr) Z Eh := by
  obtain ⟨tc, pc, rc⟩ := hc
  obtain ⟨ta, pa, ra⟩ := ha
  obtain ⟨tr, pr, rr⟩ := hr
  refine ⟨_, pss_cons (ps_if pc pa pss_nil) pr, fun B T ts σ H D s hl hh hw => ?_⟩
  rw [bdo_wp] at hw
  refine rc B T ts σ H _ s hl hh (hw.mono (fun k s1 q H1 h1 => ?_) fun x s1 q C d H' hx => q C d σ H' (hEh s1 x B T ts σ C d H' hl hx))
  cases k with
  | true =>
    have q := Rs.wp_map.mp q
    refine ra B T ts σ H1 { D with nx := tr D } s1 hl h1 (Rs.wp.mono q (fun x w q => ?_) fun _ _ q => q)
    show Post B X.K T ts { D with nx := tr D } (Z (ι x) w)
    cases z : Z (ι x) w with
    | nx Γ' => exact absurd z (hn x w Γ')
    | bk Γ' => rw [z] at q; exact q
    | ct Γ' => rw [z] at q; exact q
    | rt A io iv => rw [z] at q; exact q
  | false => exact rr B T ts σ H1 D s1 hl h1 q
/-- if c: a; else: b. neither comes to its end -/
theorem bl_ifE {ma mb : S → Rs Ω o} (hc : Et X W Γ c mc) (hEh : EhOk X Γ π Eh) (ha : Bl X W Γ a ma Z Eh) (hb : Bl X W Γ b mb Z Eh) (hn : NoNx Z) : Bl X W Γ (.If c a b pos :: rest) (bdo π mc (fun _ s => s) fun k => if k = true then ma else mb) Z Eh := by
  obtain ⟨tc, pc, rc⟩ := hc
  obtain ⟨ta, pa, ra⟩ := ha
  obtain ⟨tb, pb, rb⟩ := hb
  refine ⟨_, pss_cons (ps_if pc pa pb) pss_never, fun B T ts σ H D s hl hh hw => ?_⟩
  rw [bdo_wp] at hw
  refine rc B T ts σ H _ s hl hh (hw.mono (fun k s1 q H1 h1 => ?_) fun x s1 q C d H' hx => q C d σ H' (hEh s1 x B T ts σ C d H' hl hx))
  have fin : ∀ x w, Post B X.K T ts D (Z x w) → Post B X.K T ts { D with nx := tNever D } (Z x w) := fun x w q => by
    cases z : Z x w with
    | nx Γ' => exact absurd z (hn x w Γ')
    | bk Γ' => rw [z] at q; exact q
    | ct Γ' => rw [z] at q; exact q
    | rt A io iv => rw [z] at q; exact q
  cases k with
  | true => exact ra B T ts σ H1 _ s1 hl h1 (Rs.wp.mono q (fun x w q => fin x w q) fun _ _ q => q)
  | false => exact rb B T ts σ H1 _ s1 hl h1 (Rs.wp.mono q (fun x w q => fin x w q) fun _ _ q => q)
/-- if c: a; else: b; rest: both come to their ends -/
def ZN (L : γ → S → List As) : γ → S → Kd := fun g s => .nx (L g s)
theorem bl_ifJ {ma mb : S → Rs S γ} {L : γ → S → List As} {kr : γ → S → Rs Ω o} (hc : Et X W Γ c mc) (hEh : EhOk X Γ π Eh) (ha : Bl X W Γ a ma (ZN L) fun x s => Eh x (π s)) (hb : Bl X W Γ b mb (ZN L) fun x s => Eh x (π s)) (hr : ∀ g, Bl X W (L g) rest (kr g) Z Eh) :
    Bl X W Γ (.If c a b pos :: rest) (bdo π mc (fun _ s => s) fun k => bdo π (if k = true then ma else mb) (fun _ s => s) kr) Z Eh := by
  obtain ⟨tc, pc, rc⟩ := hc
  obtain ⟨ta, pa, ra⟩ := ha
  obtain ⟨tb, pb, rb⟩ := hb
  refine ⟨_, pss_cons (ps_if pc pa pb) pss_any, fun B T ts σ H D s hl hh hw => ?_⟩
  rw [bdo_wp] at hw
  refine rc B T ts σ H _ s hl hh (hw.mono (fun k s1 q H1 h1 => ?_) fun x s1 q C d H' hx => q C d σ H' (hEh s1 x B T ts σ C d H' hl hx))
  rw [bdo_wp] at q
  cases k with
  | true => exact ra B T ts σ H1 _ s1 hl h1 (Rs.wp.mono q (fun g s2 q σ' H' h' => (hr g).any B T ts σ' H' D s2 hl h' q) fun _ _ q => q)
  | false => exact rb B T ts σ H1 _ s1 hl h1 (Rs.wp.mono q (fun g s2 q σ' H' h' => (hr g).any B T ts σ' H' D s2 hl h' q) fun _ _ q => q)
/-- the ways of a branch: it comes to its end, or leaves -/
inductive Wy (γ o : Type) where
  | nx (g : γ)
  | go (x : o)
def ZW (L : γ → S → List As) (Z : o → Ω → Kd) (π : S → Ω) : Wy γ o → S → Kd
  | .nx g, s => .nx (L g s)
  | .go x, s => Z x (π s)
def wyk (π : S → Ω) (ι : o2 → o) (kr : γ → S → Rs Ω o) : Wy γ o2 → S → Rs Ω o
  | .nx g => kr g
  | .go x => fun s => .ok (ι x) (π s)
/-- the general if -/
theorem bl_ifW {ι : o2 → o} {ma mb : S → Rs S (Wy γ o2)} {L : γ → S → List As} {kr : γ → S → Rs Ω o} (hc : Et X W Γ c mc) (hEh : EhOk X Γ π Eh) (ha : Bl X W Γ a ma (ZW L (fun y w => Z (ι y) w) π) fun x s => Eh x (π s)) (hb : Bl X W Γ b mb (ZW L (fun y w => Z (ι y) w) π) fun x s => Eh x (π s)) (hr : ∀ g, Bl X W (L g) rest (kr g) Z Eh) (hn : NoNx (fun y w => Z (ι y) w)) :
    Bl X W Γ (.If c a b pos :: rest) (bdo π mc (fun _ s => s) fun k => bdo π (if k = true then ma else mb) (fun _ s => s) (wyk π ι kr)) Z Eh := by
  obtain ⟨tc, pc, rc⟩ := hc
  obtain ⟨ta, pa, ra⟩ := ha
  obtain ⟨tb, pb, rb⟩ := hb
  refine ⟨_, pss_cons (ps_if pc pa pb) pss_any, fun B T ts σ H D s hl hh hw => ?_⟩
  rw [bdo_wp] at hw
  refine rc B T ts σ H _ s hl hh (hw.mono (fun k s1 q H1 h1 => ?_) fun x s1 q C d H' hx => q C d σ H' (hEh s1 x B T ts σ C d H' hl hx))
  rw [bdo_wp] at q
  have fin : ∀ (g : Wy γ o2) s2, (wyk π ι kr g s2).wp (fun x w => Post B X.K T ts D (Z x w)) (fun x w => ∀ C d σ' H', Eh x w B T ts σ' C d H' → W C d σ' H') → Post B X.K T ts { D with nx := tAnyS X rest D } (ZW L (fun y w => Z (ι y) w) π g s2) := fun g s2 q => by
    cases g with
    | nx g => exact fun σ' H' h' => (hr g).any B T ts σ' H' D s2 hl h' q
    | go x =>
      have q : Post B X.K T ts D (Z (ι x) (π s2)) := q
      show Post B X.K T ts { D with nx := tAnyS X rest D } (Z (ι x) (π s2))
      cases z : Z (ι x) (π s2) with
      | nx Γ' => exact absurd z (hn x _ Γ')
      | bk Γ' => rw [z] at q; exact q
      | ct Γ' => rw [z] at q; exact q
      | rt A io iv => rw [z] at q; exact q
  cases k with
  | true => exact ra B T ts σ H1 _ s1 hl h1 (Rs.wp.mono q (fun g s2 q => fin g s2 q) fun _ _ q => q)
  | false => exact rb B T ts σ H1 _ s1 hl h1 (Rs.wp.mono q (fun g s2 q => fin g s2 q) fun _ _ q => q)
end
end
end G

set_option maxHeartbeats 4000000
/-! G6: targets, what is walked, for, while, comprehensions. -/
namespace G
open PySem PySem.Spec PyProof.Rows L2
section
variable {X : Cx} {W : WX} {S S2 α β γ Ω o : Type} {Γ : S → List As} {e : Expr} {rest : List Stmt} {pos : Pos} {P : α → As} {Z : o → Ω → Kd} {Eh : EhT Ω} {π : S → Ω}
theorem Hold.viewL {B : Ent} {K : PySem.W.Frag} {L : List As} {vs : List (Option V)} {H : Hp} (h : Hold B K L vs H) : ∃ F, Ext F H ∧ Reads K F H L vs ∧ ∀ Ls ws, AllR K F Ls ws → Hold B K (Ls ++ L) (ws.map some ++ vs) H := by
  obtain ⟨F, Os, h1, h2, h3, h4, h5, h6, h7, h8⟩ := h.ex
  refine ⟨F, h3, fun i C e => ?_, fun Ls ws r => ?_⟩
  · obtain ⟨u, q1, q2⟩ := h8 i C e
    exact ⟨u, Os i, q1, h4 i, q2⟩
  · have hl := r.len
    have get : ∀ {Ls : List As} {ws : List V}, AllR K F Ls ws → ∀ (i : Nat) (A : As), Ls[i]? = some A → ∃ w, ws[i]? = some w ∧ A.rep K F emp (some w) := by
      intro Ls ws r
      induction r with
      | nil => intro i A e; simp at e
      | cons r _ ih =>
        intro i A e
        cases i with
        | zero =>
          have e := Option.some.inj e
          subst e
          exact ⟨_, rfl, r⟩
        | succ i => exact ih i A e
    refine ⟨⟨F, fun i => if i < Ls.length then emp else Os (i - Ls.length), h1, h2, h3, fun i => ?_, fun i => ?_, fun i j hij => ?_, fun i a o e => ?_, fun i C e => ?_⟩, h.kp, h.dm, by have := h.len; simp; omega⟩
    · dsimp only; split
      · exact Ext.e _
      · exact h4 _
    · dsimp only; split
      · exact Dis.e _
      · exact h5 _
    · dsimp only; split
      · exact Dis.e _
      · split
        · exact Dis.e' _
        · exact h6 _ _ (by omega)
    · dsimp only at e; split at e
      · cases e
      · exact h7 _ a o e
    · dsimp only
      by_cases hi : i < Ls.length
      · rw [if_pos hi]
        rw [List.getElem?_append_left hi] at e
        obtain ⟨w, w1, w2⟩ := get r i C e
        exact ⟨some w, by rw [List.getElem?_append_left (by simp; omega), List.getElem?_map, w1]; rfl, w2⟩
      · rw [if_neg hi]
        rw [List.getElem?_append_right (by omega)] at e
        obtain ⟨u, q1, q2⟩ := h8 _ C e
        exact ⟨u, by rw [List.getElem?_append_right (by simp; omega), List.length_map, ← hl]; exact q1, q2⟩

/-! ### targets -/
/-- is: the slots that it writes; up: what the context becomes -/
def Tg (X : Cx) (tg : Expr) (P : α → As) (is : List Nat) (up : α → List As → List As) : Prop := (∀ x L n, n ∉ is → (up x L)[n]? = L[n]?) ∧ (∀ x L, (up x L).length = L.length) ∧ ∃ g, PG X tg g ∧ ∀ x B T ts σ H L v Q, ts.length = T.length → Hold B X.K (P x :: (T ++ L)) (some v :: (ts ++ σ)) H →
  (∀ σ' : L2.St, σ'.length = σ.length → (∀ n : Nat, n ∉ is → σ'[n]? = σ[n]?) → Hold B X.K (T ++ up x L) (ts ++ σ') H → Q σ' H) → g v σ H Q
def Tgs (X : Cx) (es : List Expr) (Ps : α → List As) (is : List Nat) (up : α → List As → List As) : Prop := (∀ x L n, n ∉ is → (up x L)[n]? = L[n]?) ∧ (∀ x L, (up x L).length = L.length) ∧ ∃ t, PGs X es t ∧ ∀ x B T ts σ H L vs Q, ts.length = T.length → vs.length = (Ps x).length → Hold B X.K (Ps x ++ (T ++ L)) (vs.map some ++ (ts ++ σ)) H →
  (∀ σ' : L2.St, σ'.length = σ.length → (∀ n : Nat, n ∉ is → σ'[n]? = σ[n]?) → Hold B X.K (T ++ up x L) (ts ++ σ') H → Q σ' H) → t vs σ H Q
theorem tg_name {x : Str} (i : Nat) (hN : X.N.Nodup) (hi : X.N[i]? = some x := by rfl) (hx : Loc X.env.scope x := by first | exact Or.inl rfl | exact Or.inr rfl) (hf : X.fn x = true ∨ X.env.scope.names.lookup x = some .local := by first | exact .inl rfl | exact .inr rfl | assumption) :
    Tg X (.Name x pos) P [i] (fun y L => L.set i (P y)) :=
  ⟨fun y L n hn => List.getElem?_set_ne fun z => hn (by simp [z]), fun y L => List.length_set, _, pg_name hN hi hx hf, fun y B T ts σ H L v Q hl h q => q _ (by simp) (fun n hn => List.getElem?_set_ne fun z => hn (by simp [z])) (h.store hl i)⟩
theorem tgs_nil : Tgs X [] (fun _ : α => []) [] (fun _ L => L) := ⟨fun _ _ _ _ => rfl, fun _ _ => rfl, _, pgs_nil, fun y B T ts σ H L vs Q hl hn h q => by
  have hn : vs = [] := List.length_eq_zero_iff.mp hn
  subst hn
  exact ⟨rfl, q σ rfl (fun _ _ => rfl) h⟩⟩
theorem tgs_cons {es : List Expr} {Ps : α → List As} {is js : List Nat} {up uq : α → List As → List As} (h1 : Tg X e P is up) (h2 : Tgs X es Ps js uq)
    (hs : (assignEach (e :: es) X.env).map (·.2) = assign e X.env :: (assignEach es X.env).map (·.2) := by rfl) : Tgs X (e :: es) (fun x => P x :: Ps x) (is ++ js) (fun x L => uq x (up x L)) := by
  obtain ⟨a1, a2, g, pg, hg⟩ := h1
  obtain ⟨b1, b2, t, pt, ht⟩ := h2
  refine ⟨fun x L n hn => ?_, fun x L => by rw [b2, a2], _, pgs_cons pg pt hs, fun x B T ts σ H L vs Q hl hn h q => ?_⟩
  · rw [b1 x _ n (fun z => hn (List.mem_append_right _ z)), a1 x L n (fun z => hn (List.mem_append_left _ z))]
  · match vs, hn with
    | v :: vs, hn =>
      have hn2 : vs.length = (Ps x).length := by simpa using hn
      refine ⟨v, vs, rfl, hg x B (Ps x ++ T) (vs.map some ++ ts) σ H L v _ (by simp; omega) (by rw [List.append_assoc, List.append_assoc]; exact h) fun σ1 l1 o1 h1 => ?_⟩
      rw [List.append_assoc, List.append_assoc] at h1
      refine ht x B T ts σ1 H (up x L) vs Q hl hn2 h1 fun σ2 l2 o2 h2 => q σ2 (l2.trans l1) (fun n hn => ?_) h2
      rw [o2 n (fun z => hn (List.mem_append_right _ z)), o1 n (fun z => hn (List.mem_append_left _ z))]
theorem tg_tup {es : List Expr} {k n : Nat} {Ps : α → List As} {is : List Nat} {up : α → List As → List As} (hc : X.calm = true) (h : Tgs X es Ps is up) (hl : ∀ x, (Ps x).length = n := by intro _; rfl)
    (hn : (assignEach es X.env).length = n := by rfl) (hst : (assignEach es X.env).findIdx? (·.1) = none := by rfl) : Tg X (.Tuple es k pos) (fun x => aTu (Ps x)) is up := by
  obtain ⟨b1, b2, t, pt, ht⟩ := h
  refine ⟨b1, b2, _, pg_tup hc pt hn hst, fun x B T ts σ H L v Q hlt h q => ?_⟩
  obtain ⟨F, eF, rd, put⟩ := h.viewL
  obtain ⟨o, O, q1, _, _, a, ws, e1, e2, e3⟩ := rd 0 _ rfl
  cases q1
  cases e1
  have hl2 := e3.len
  refine ⟨a, ws, rfl, seqT_ext eF e2, by rw [← hl2, hl], ht x B T ts σ H L ws Q hlt hl2.symm ?_ q⟩
  exact (put _ _ e3).re (L' := Ps x ++ (T ++ L)) (vs' := ws.map some ++ (ts ++ σ)) (fun i => if i < (Ps x).length then i else i + 1) (fun i j _ _ e => by split at e <;> split at e <;> omega) (by have := h.len; simp at this ⊢; omega) fun i A e => .inr ⟨by
    by_cases hi : i < (Ps x).length
    · rw [if_pos hi]
      rw [List.getElem?_append_left hi] at e ⊢
      exact e
    · rw [if_neg hi]
      rw [List.getElem?_append_right (by omega)] at e ⊢
      rw [show i + 1 - (Ps x).length = (i - (Ps x).length) + 1 by omega]
      simpa using e, fun o q => by
    by_cases hi : i < (Ps x).length
    · rw [if_pos hi] at q
      rw [List.getElem?_append_left (by simp; omega)] at q ⊢
      exact q
    · rw [if_neg hi] at q
      rw [List.getElem?_append_right (by simp; omega)] at q ⊢
      rw [List.length_map, show i + 1 - ws.length = (i - ws.length) + 1 by omega] at q
      rw [List.length_map]
      simpa using q⟩
/-- a, b, .. = e -/
theorem bl_tgt {tg : Expr} {is : List Nat} {up : α → List As → List As} {me : M S α} {Γ2 : α → S2 → List As} {mk : α → S → S2} {k : α → S2 → Rs Ω o} (he : Ex X W Γ e me P) (hEh : EhOk X Γ π Eh) (ht : Tg X tg P is up) (hk : ∀ a, Bl X W (Γ2 a) rest (k a) Z Eh) (hΓ : ∀ a s, up a (Γ s) = Γ2 a (mk a s))
    (hs : swapsWithSole [tg] e pos.line X.env = pure false := by rfl) (hw : swappedStores [tg] e X.env = pure none := by rfl)
    (h1 : (assignEach [tg] X.env).map (·.2) = [assign tg X.env] := by rfl) : Bl X W Γ (.Assign [tg] e pos :: rest) (bdo π me mk k) Z Eh := by
  obtain ⟨t, pt, rt⟩ := he
  obtain ⟨_, _, g, pg, hg⟩ := ht
  refine ⟨_, pss_cons (ps_asg pt pg hs hw h1) pss_any, fun B T ts σ H D s hl hh hw => ?_⟩
  rw [bdo_wp] at hw
  refine rt B T ts σ H _ s hl hh (hw.mono (fun a s1 q v H1 h1 => ?_) fun x s1 q C d H' hx => q C d σ H' (hEh s1 x B T ts σ C d H' hl hx))
  refine hg a B T ts σ H1 (Γ s1) v _ hl h1 fun σ' _ _ h2 => ?_
  rw [hΓ a s1] at h2
  exact (hk a).any B T ts σ' H1 D _ hl h2 q

/-! ### what is walked -/
def Walks (K : PySem.W.Frag) (J : It) (A : As) (v : V) (xs : List α) (P : α → As) : Prop := ∀ B L vs H i, Hold B K (A :: L) (some v :: vs) H →
  (∀ x, xs[i]? = some x → J.go i H ∧ ∀ u H', J.yld i H u H' → Hold B K (P x :: A :: L) (some u :: some v :: vs) H') ∧ (xs.length ≤ i → J.stop i H)
def EsR (X : Cx) (W : WX) (Γ : S → List As) (wi : TI) (m : M S (List α)) (P : α → As) : Prop := ∀ (B : Ent) (T : List As) (ts : List (Option V)) (σ : L2.St) (H : Hp) (R : It → Hp → Prop) (s : S), ts.length = T.length → Hold B X.K (T ++ Γ s) (ts ++ σ) H →
  (m s).wp (fun xs s' => ∀ J A v H', Hold B X.K (A :: (T ++ Γ s')) (some v :: (ts ++ σ)) H' → Walks X.K J A v xs P → R J H') (fun x s' => ∀ C d H', HoldX X.mg B X.K x (T ++ Γ s') (ts ++ σ) C d H' → W C d σ H') → wi σ H R
def Es (X : Cx) (W : WX) (tg : Expr) (Γ : S → List As) (e : Expr) (m : M S (List α)) (P : α → As) : Prop := ∃ wi, PI X tg e wi ∧ EsR X W Γ wi m P
theorem walk_seq {K : PySem.W.Frag} {A : As} {v : V} {a : Addr} {xs : List α} {J : It} (hv : v = .ref a) [hs : Sq A (xs.map P)]
    (hgo : ∀ i H ws w, (SqL K H a ws ∨ SqT K H a ws) → ws[i]? = some w → J.go i H ∧ ∀ u H', J.yld i H u H' → H' = H ∧ u = w) (hst : ∀ i H ws, (SqL K H a ws ∨ SqT K H a ws) → ws.length ≤ i → J.stop i H) : Walks K J A v xs P := by
  intro B L vs H i h
  obtain ⟨F, eF, rd, put, _⟩ := h.view
  obtain ⟨o, O, q1, eO, q2⟩ := rd 0 _ rfl
  cases q1
  obtain ⟨b, ws, e1, e2, e3⟩ := hs.rd q2 eF eO
  rw [hv] at e1
  cases e1
  have hl := e3.len
  rw [List.length_map] at hl
  refine ⟨fun x e => ?_, fun hi => hst i H ws e2 (by omega)⟩
  obtain ⟨w, w1, w2⟩ := e3.get e
  obtain ⟨g1, g2⟩ := hgo i H ws w e2 w1
  refine ⟨g1, fun u H' y => ?_⟩
  obtain ⟨rfl, rfl⟩ := g2 u H' y
  exact put _ _ w2
/-- a list, frozen or fresh -/
theorem es_lst {tg : Expr} {Pa : List α → As} {m : M S (List α)} (h : Ex X W Γ e m Pa) (hs : ∀ xs, ∀ {K F O o H}, (Pa xs).rep K F O o → Ext F H → Ext O H → ∃ a vs, o = some (.ref a) ∧ SqL K H a vs ∧ AllR K F (xs.map P) vs) : Es X W tg Γ e m P := by
  obtain ⟨t, ht, hr⟩ := h
  refine ⟨_, pi_list ht, fun B T ts σ H R s hl hh hw => ?_⟩
  refine hr B T ts σ H _ s hl hh (hw.mono (fun xs s1 q v H1 h1 => ?_) fun _ _ q => q)
  obtain ⟨F, O, eF, eO, r⟩ := h1.get0
  obtain ⟨a, vs, e1, e2, e3⟩ := hs xs r eF eO
  cases e1
  refine ⟨a, rfl, ⟨vs, e2⟩, q _ (Pa xs) _ H1 h1 fun B L ls H i h => ?_⟩
  obtain ⟨F, eF, rd, put, _⟩ := h.view
  obtain ⟨o, O, q1, eO, q2⟩ := rd 0 _ rfl
  cases q1
  obtain ⟨b, ws, e1, e2, e3⟩ := hs xs q2 eF eO
  cases e1
  have hl := e3.len
  rw [List.length_map] at hl
  refine ⟨fun x e => ?_, fun hi => ⟨ws, e2, by omega⟩⟩
  obtain ⟨w, w1, w2⟩ := e3.get e
  refine ⟨⟨ws, w, e2, w1⟩, fun u H' y => ?_⟩
  obtain ⟨rfl, y⟩ := y
  have := y ws e2
  rw [w1] at this
  cases this
  exact put _ _ w2
theorem es_own {tg : Expr} {m : M S (List α)} (h : Ex X W Γ e m (aL P)) : Es X W tg Γ e m P := es_lst h fun xs K F O o H ⟨p, vs, h1, h2, h3⟩ _ eO => ⟨p, vs, h1, .inl (.inl (eO _ _ (by rw [h2]; exact one_at))), h3⟩
theorem es_frz {tg : Expr} {m : M S (List α)} (h : Ex X W Γ e m (aF P)) : Es X W tg Γ e m P := es_lst h fun xs K F O o H ⟨_, p, vs, h1, h2, h3⟩ eF _ => ⟨p, vs, h1, seqL_ext eF h2, h3⟩
theorem es_tup {tg : Expr} {m : M S (List α)} (h : Ex X W Γ e m (aT P)) : Es X W tg Γ e m P := by
  obtain ⟨t, ht, hr⟩ := h
  refine ⟨_, pi_tup ht, fun B T ts σ H R s hl hh hw => ?_⟩
  refine hr B T ts σ H _ s hl hh (hw.mono (fun xs s1 q v H1 h1 => ?_) fun _ _ q => q)
  obtain ⟨F, O, eF, eO, _, a, vs, e1, e2, e3⟩ := h1.get0
  cases e1
  refine ⟨a, rfl, ⟨vs, seqT_ext eF e2⟩, q _ (aT P xs) _ H1 h1 fun B L ls H i h => ?_⟩
  obtain ⟨F, eF, rd, put, _⟩ := h.view
  obtain ⟨o, O, q1, eO, _, b, ws, e1, e2, e3⟩ := rd 0 _ rfl
  cases q1
  cases e1
  have hl := e3.len
  rw [List.length_map] at hl
  refine ⟨fun x e => ?_, fun hi => ⟨ws, seqT_ext eF e2, by omega⟩⟩
  obtain ⟨w, w1, w2⟩ := e3.get e
  refine ⟨⟨ws, w, seqT_ext eF e2, w1⟩, fun u H' y => ?_⟩
  obtain ⟨rfl, y⟩ := y
  have := y ws (seqT_ext eF e2)
  rw [w1] at this
  cases this
  exact put _ _ w2
/-- a text, sign by sign -/
theorem es_str {tg : Expr} {m : M S Tx} (h : Ex X W Γ e m aStr) : Es X W tg Γ e (m >>= fun t => ret (t.map fun c => [c])) aStr := by
  obtain ⟨t, ht, hr⟩ := h
  refine ⟨_, pi_str ht, fun B T ts σ H R s hl hh hw => ?_⟩
  rw [bind_wp] at hw
  refine hr B T ts σ H _ s hl hh (hw.mono (fun xs s1 q v H1 h1 => ?_) fun _ _ q => q)
  have hv := h1.v0
  cases hv
  refine ⟨_, rfl, q _ (aStr xs) _ H1 h1 fun B L ls H i h => ⟨fun x e => ?_, fun hi => ?_⟩⟩
  · rw [List.getElem?_map] at e
    cases z : xs[i]? with
    | none => rw [z] at e; cases e
    | some c =>
      rw [z] at e
      cases e
      have hi := (List.getElem?_eq_some_iff.mp z).1
      refine ⟨by show i < xs.toArray.size; simpa using hi, fun u H' y => ?_⟩
      obtain ⟨rfl, d, y1, rfl⟩ := y
      have y1 : xs.toArray[i]? = some d := y1
      have : xs[i]? = some d := by simpa using y1
      rw [z] at this
      cases this
      exact h.pushV _
  · show xs.toArray.size ≤ i
    simpa using hi
/-- range(n), range(a, b): within 62 bits -/
def rng (i j : Int) : List Int := (List.range (j - i).toNat).map fun (k : Nat) => i + (k : Int)
def rng1 (j : Int) : Option (List Int) := if -(2 ^ 62) ≤ j ∧ j < 2 ^ 62 then some (rng 0 j) else none
def rng2 (i j : Int) : Option (List Int) := if -(2 ^ 62) ≤ i ∧ i < 2 ^ 62 ∧ -(2 ^ 62) ≤ j ∧ j < 2 ^ 62 then some (rng i j) else none
theorem walk_rng {K : PySem.W.Frag} {i j : Int} : Walks K (Itr i (j - i).toNat) (aV .non) .non (rng i j) aInt := by
  intro B L ls H n h
  refine ⟨fun x e => ?_, fun hi => (by simpa [rng] using hi : (j - i).toNat ≤ n)⟩
  unfold rng at e
  rw [List.getElem?_map] at e
  cases z : (List.range (j - i).toNat)[n]? with
  | none => rw [z] at e; cases e
  | some k =>
    rw [z] at e
    cases e
    obtain ⟨h1, h2⟩ := List.getElem?_eq_some_iff.mp z
    have h1 : n < (j - i).toNat := by simpa using h1
    have h2 : n = k := by simpa using h2
    subst h2
    refine ⟨h1, fun u H' y => ?_⟩
    obtain ⟨rfl, rfl⟩ := y
    exact h.pushV _
theorem es_rng1 {tg : Expr} {p : Pos} {m : M S (Int × Unit)} (h : Ea X W Γ [e] m fun z => [aInt z.1]) (hm : X.mg "range" = none) (hg : Gl X "range" := by rfl) (hs : starEach [e] X.env = [(false, eval e X.env)] := by rfl) : Es X W tg Γ (.Call (.Name "range" p) [e] [] pos) (m >>= fun z => lf (rng1 z.1)) aInt := by
  obtain ⟨t, ht, hr⟩ := h
  refine ⟨_, pi_range1 hg hm ht hs, fun B T ts σ H R s hl hh hw => ?_⟩
  rw [bind_wp] at hw
  refine hr B T ts σ H _ s hl hh (hw.mono (fun z s1 q vs H1 hn h1 => ?_) fun _ _ q => q)
  match vs, hn with
  | [v], _ =>
    have hv : some v = some (V.int z.1) := h1.v0
    cases hv
    obtain ⟨c, e, q⟩ := lf_wp.mp q
    unfold rng1 at e
    split at e
    · rename_i hj
      cases e
      refine ⟨z.1, rfl, hj.1, hj.2, q _ _ _ H1 (h1.pop.pushV .non) ?_⟩
      have := walk_rng (K := X.K) (i := 0) (j := z.1)
      rw [show z.1 - 0 = z.1 by omega] at this
      exact this
    · cases e
theorem es_rng2 {tg e2 : Expr} {p : Pos} {m : M S (Int × (Int × Unit))} (h : Ea X W Γ [e, e2] m fun z => [aInt z.1, aInt z.2.1]) (hm : X.mg "range" = none) (hg : Gl X "range" := by rfl) (hs : starEach [e, e2] X.env = [(false, eval e X.env), (false, eval e2 X.env)] := by rfl) (hs2 : starEach [e2] X.env = [(false, eval e2 X.env)] := by rfl) :
    Es X W tg Γ (.Call (.Name "range" p) [e, e2] [] pos) (m >>= fun z => lf (rng2 z.1 z.2.1)) aInt := by
  obtain ⟨t, ht, hr⟩ := h
  refine ⟨_, pi_range2 hg hm ht hs hs2, fun B T ts σ H R s hl hh hw => ?_⟩
  rw [bind_wp] at hw
  refine hr B T ts σ H _ s hl hh (hw.mono (fun z s2 q vs H1 hn h1 => ?_) fun _ _ q => q)
  match vs, hn with
  | [v, w], _ =>
    have hv : some v = some (V.int z.1) := h1.v0
    have hw : some w = some (V.int z.2.1) := (h1.pop).v0
    cases hv
    cases hw
    obtain ⟨c, e, q⟩ := lf_wp.mp q
    unfold rng2 at e
    split at e
    · rename_i hj
      cases e
      exact ⟨z.1, z.2.1, rfl, hj, q _ _ _ H1 (h1.pop.pop.pushV .non) walk_rng⟩
    · cases e
/-! ### for -/
/-- a temporary more does not matter -/
def EhP (Eh : EhT Ω) : Prop := ∀ x w B A T v ts σ C d H, Eh x w B (A :: T) (v :: ts) σ C d H → Eh x w B T ts σ C d H
theorem ehp {mg : Str → Option Value} {K : PySem.W.Frag} {pio : Ω → List As} {iv : List V} : EhP (ehF mg K pio iv) := fun _ _ _ _ _ _ _ _ _ _ _ h => h
theorem ehpπ {Eh : EhT Ω} (h : EhP Eh) : EhP (fun x (s : S) => Eh x (π s)) := fun x w => h x (π w)
/-- a loop whose turns come to their ends -/
def forN (b : γ → α → S → Rs S γ) : List α → γ → S → Rs S γ
  | [], g, s => .ok g s
  | x :: xs, g, s => (b g x s).bind fun g' s' => forN b xs g' s'
/-- a turn's ways -/
inductive Lp (γ o : Type) where
  | nx (g : γ)
  | ct (g : γ)
  | bk (g : γ)
  | go (x : o)
def forL (b : γ → α → S → Rs S (Lp γ o)) : List α → γ → S → Rs S (Wy γ o)
  | [], g, s => .ok (.nx g) s
  | x :: xs, g, s => (b g x s).bind fun r s' => match r with
    | .nx g' => forL b xs g' s'
    | .ct g' => forL b xs g' s'
    | .bk g' => .ok (.nx g') s'
    | .go y => .ok (.go y) s'
def ZL (L : γ → S → List As) (Z : o → Ω → Kd) (π : S → Ω) : Lp γ o → S → Kd
  | .nx g, s => .nx (L g s)
  | .ct g, s => .ct (L g s)
  | .bk g, s => .bk (L g s)
  | .go x, s => Z x (π s)
theorem bl_for {tg iter : Expr} {body : List Stmt} {is : List Nat} {up : α → List As → List As} {mi : M S (List α)} {L : γ → S → List As} {Γb : γ → α → S → List As} {b : γ → α → S → Rs S γ} {g0 : γ} {kr : γ → S → Rs Ω o}
    (hi : Es X W tg Γ iter mi P) (hEh : EhOk X Γ π Eh) (ht : Tg X tg P is up) (hw0 : ∀ s, WkL (Γ s) (L g0 s)) (hΓ : ∀ g x s, up x (L g s) = Γb g x s) (hE2 : EhP Eh) (hb : ∀ g x, Bl X W (Γb g x) body (b g x) (ZN L) fun x s => Eh x (π s)) (hr : ∀ g, Bl X W (L g) rest (kr g) Z Eh)
    (hp : PassesOwn (model X.prog X.w) X.A X.env X.xe) (hc : X.calm = true) (hs : ∀ x, foldedSetIterable iter X.env x = pure x := by intro _; rfl) :
    Bl X W Γ (.For tg iter body [] pos :: rest) (bdo π mi (fun _ s => s) fun xs => bdo π (forN b xs g0) (fun _ s => s) kr) Z Eh := by
  obtain ⟨wi, pi, ri⟩ := hi
  obtain ⟨_, _, gt, pg, hg⟩ := ht
  refine ⟨_, pss_cons (ps_for hp hc pi pg (pss_any (ss := body)) hs) pss_any, fun B T ts σ H D s hl hh hw => ?_⟩
  rw [bdo_wp] at hw
  refine ri B T ts σ H _ s hl hh (hw.mono (fun xs s1 q J A v H1 h1 hwk => ?_) fun x s1 q C d H' hx => q C d σ H' (hEh s1 x B T ts σ C d H' hl hx))
  have q := bdo_wp.mp q
  refine ⟨fun i m σ' H' => i + m = xs.length ∧ ∃ g s, Hold B X.K (A :: (T ++ L g s)) (some v :: (ts ++ σ')) H' ∧ (forN b (xs.drop i) g s).wp (fun g s => (kr g s).wp (fun x w => Post B X.K T ts D (Z x w)) fun x w => ∀ C d σ' H', Eh x w B T ts σ' C d H' → W C d σ' H') (fun x s => ∀ C d σ' H', Eh x (π s) B T ts σ' C d H' → W C d σ' H'), ⟨xs.length, by omega, g0, s1, ?_, ?_⟩, fun i m σ' H' ⟨him, g, s2, h2, q2⟩ => ?_⟩
  · exact Hold.wk (T := A :: T) h1 (hw0 s1)
  · rw [List.drop_zero]; exact q
  · obtain ⟨go, st⟩ := hwk B _ _ H' i h2
    by_cases hi : i < xs.length
    · obtain ⟨g1, g2⟩ := go xs[i] (List.getElem?_eq_getElem hi)
      rw [List.drop_eq_getElem_cons hi] at q2
      have q2 : ((b g xs[i] s2).bind fun g' s' => forN b (xs.drop (i + 1)) g' s').wp _ _ := q2
      rw [Rs.wp_bind] at q2
      refine .inr ⟨g1, fun σ3 H3 => i + 1 + (m - 1) = xs.length ∧ ∃ g s, Hold B X.K (A :: (T ++ L g s)) (some v :: (ts ++ σ3)) H3 ∧ (forN b (xs.drop (i + 1)) g s).wp (fun g s => (kr g s).wp (fun x w => Post B X.K T ts D (Z x w)) fun x w => ∀ C d σ' H', Eh x w B T ts σ' C d H' → W C d σ' H') (fun x s => ∀ C d σ' H', Eh x (π s) B T ts σ' C d H' → W C d σ' H'), fun σ3 H3 n3 => ⟨m - 1, by omega, n3⟩, fun u H3 y => ?_⟩
      have h3 := g2 u H3 y
      refine hg xs[i] B (A :: T) (some v :: ts) σ' H3 (L g s2) u _ (by simp [hl]) h3 fun σ4 _ _ h4 => ?_
      rw [hΓ] at h4
      refine (hb g xs[i]).any B (A :: T) (some v :: ts) σ4 H3 _ s2 (by simp [hl]) h4 (q2.mono (fun g' s' q3 σ5 H5 h5 => ⟨by omega, g', s', h5, q3⟩) fun x s' q3 C d σ5 H5 hx => q3 C d σ5 H5 (hE2 _ _ _ _ _ _ _ _ _ _ _ hx))
    · refine .inl ⟨st (by omega), ?_⟩
      rw [List.drop_of_length_le (by omega)] at q2
      exact (hr g).any B T ts σ' H' D s2 hl h2.pop q2
end
end G

set_option maxHeartbeats 4000000
/-! G7: loops that may be left, while, comprehensions. -/
namespace G
open PySem PySem.Spec PyProof.Rows L2
section
variable {X : Cx} {W : WX} {S S2 α β γ Ω o o2 : Type} {Γ : S → List As} {e : Expr} {rest : List Stmt} {pos : Pos} {P : α → As} {Z : o → Ω → Kd} {Eh : EhT Ω} {π : S → Ω}
/-- what is wanted behind a way that leaves, under one temporary more -/
theorem Post.more {B : Ent} {K : PySem.W.Frag} {T : List As} {ts : List (Option V)} {A : As} {v : Option V} {D D' : Ends} {z : Kd} (h : Post B K T ts D z) (hn : ∀ Γ, z ≠ .nx Γ) (hb : ∀ Γ, z ≠ .bk Γ) (hc : ∀ Γ, z ≠ .ct Γ) (hr : D'.rt = D.rt) : Post B K (A :: T) (v :: ts) D' z := by
  cases z with
  | nx Γ => exact absurd rfl (hn Γ)
  | bk Γ => exact absurd rfl (hb Γ)
  | ct Γ => exact absurd rfl (hc Γ)
  | rt C io iv =>
    intro u H h2
    rw [hr]
    exact h u H h2.drop1
/-- only returns -/
def OnlyRt (Z : o → Ω → Kd) : Prop := ∀ x w, ∃ A io iv, Z x w = .rt A io iv
theorem OnlyRt.nonx {Z : o → Ω → Kd} (h : OnlyRt Z) : NoNx Z := fun x w Γ e => by
  obtain ⟨A, io, iv, z⟩ := h x w
  rw [z] at e; cases e
theorem onlyRt {A : o → Ω → As} {L : o → Ω → List As} {iv : List V} : OnlyRt (fun x w => .rt (A x w) (L x w) iv) := fun x w => ⟨_, _, _, rfl⟩
theorem onlyRtW {γ : Type} {Z : o → Ω → Kd} {L : γ → S → List As} (h : OnlyRt Z) : True := trivial
theorem bl_forL {tg iter : Expr} {body : List Stmt} {is : List Nat} {up : α → List As → List As} {mi : M S (List α)} {L : γ → S → List As} {Γb : γ → α → S → List As} {ι : o2 → o} {b : γ → α → S → Rs S (Lp γ o2)} {g0 : γ} {kr : γ → S → Rs Ω o}
    (hi : Es X W tg Γ iter mi P) (hEh : EhOk X Γ π Eh) (ht : Tg X tg P is up) (hw0 : ∀ s, WkL (Γ s) (L g0 s)) (hΓ : ∀ g x s, up x (L g s) = Γb g x s) (hE2 : EhP Eh) (hb : ∀ g x, Bl X W (Γb g x) body (b g x) (ZL L (fun y w => Z (ι y) w) π) fun x s => Eh x (π s)) (hr : ∀ g, Bl X W (L g) rest (kr g) Z Eh) (hZ : OnlyRt (fun y w => Z (ι y) w))
    (hp : PassesOwn (model X.prog X.w) X.A X.env X.xe) (hc : X.calm = true) (hs : ∀ x, foldedSetIterable iter X.env x = pure x := by intro _; rfl) :
    Bl X W Γ (.For tg iter body [] pos :: rest) (bdo π mi (fun _ s => s) fun xs => bdo π (forL b xs g0) (fun _ s => s) (wyk π ι kr)) Z Eh := by
  obtain ⟨wi, pi, ri⟩ := hi
  obtain ⟨_, _, gt, pg, hg⟩ := ht
  refine ⟨_, pss_cons (ps_for hp hc pi pg (pss_any (ss := body)) hs) pss_any, fun B T ts σ H D s hl hh hw => ?_⟩
  rw [bdo_wp] at hw
  refine ri B T ts σ H _ s hl hh (hw.mono (fun xs s1 q J A v H1 h1 hwk => ?_) fun x s1 q C d H' hx => q C d σ H' (hEh s1 x B T ts σ C d H' hl hx))
  have q := bdo_wp.mp q
  generalize hPP : (fun (g : Wy γ o2) s => (wyk π ι kr g s).wp (fun x w => Post B X.K T ts D (Z x w)) fun x w => ∀ C d σ' H', Eh x w B T ts σ' C d H' → W C d σ' H') = PP at q
  have out : ∀ g s2 σ' H', Hold B X.K (A :: (T ++ L g s2)) (some v :: (ts ++ σ')) H' → PP (.nx g) s2 → tAnyS X rest D σ' H' := fun g s2 σ' H' h2 q => by
    subst hPP
    exact (hr g).any B T ts σ' H' D s2 hl h2.pop q
  refine ⟨fun i m σ' H' => i + m = xs.length ∧ ∃ g s, Hold B X.K (A :: (T ++ L g s)) (some v :: (ts ++ σ')) H' ∧ (forL b (xs.drop i) g s).wp PP (fun x s => ∀ C d σ' H', Eh x (π s) B T ts σ' C d H' → W C d σ' H'), ⟨xs.length, by omega, g0, s1, ?_, ?_⟩, fun i m σ' H' ⟨him, g, s2, h2, q2⟩ => ?_⟩
  · exact Hold.wk (T := A :: T) h1 (hw0 s1)
  · rw [List.drop_zero]; exact q
  · obtain ⟨go, st⟩ := hwk B _ _ H' i h2
    by_cases hi : i < xs.length
    · obtain ⟨g1, g2⟩ := go xs[i] (List.getElem?_eq_getElem hi)
      rw [List.drop_eq_getElem_cons hi] at q2
      have q2 : ((b g xs[i] s2).bind fun r s' => match r with
        | .nx g' => forL b (xs.drop (i + 1)) g' s'
        | .ct g' => forL b (xs.drop (i + 1)) g' s'
        | .bk g' => .ok (.nx g') s'
        | .go y => .ok (.go y) s').wp _ _ := q2
      rw [Rs.wp_bind] at q2
      refine .inr ⟨g1, fun σ3 H3 => i + 1 + (m - 1) = xs.length ∧ ∃ g s, Hold B X.K (A :: (T ++ L g s)) (some v :: (ts ++ σ3)) H3 ∧ (forL b (xs.drop (i + 1)) g s).wp PP (fun x s => ∀ C d σ' H', Eh x (π s) B T ts σ' C d H' → W C d σ' H'), fun σ3 H3 n3 => ⟨m - 1, by omega, n3⟩, fun u H3 y => ?_⟩
      have h3 := g2 u H3 y
      refine hg xs[i] B (A :: T) (some v :: ts) σ' H3 (L g s2) u _ (by simp [hl]) h3 fun σ4 _ _ h4 => ?_
      rw [hΓ] at h4
      refine (hb g xs[i]).any B (A :: T) (some v :: ts) σ4 H3 _ s2 (by simp [hl]) h4 (q2.mono (fun r s' q3 => ?_) fun x s' q3 C d σ5 H5 hx => q3 C d σ5 H5 (hE2 _ _ _ _ _ _ _ _ _ _ _ hx))
      cases r with
      | nx g' => exact fun σ5 H5 h5 => ⟨by omega, g', s', h5, q3⟩
      | ct g' => exact fun σ5 H5 h5 => ⟨by omega, g', s', h5, q3⟩
      | bk g' => exact fun σ5 H5 h5 => out g' s' σ5 H5 h5 q3
      | go y =>
        subst hPP
        have q3 : Post B X.K T ts D (Z (ι y) (π s')) := q3
        obtain ⟨A', Γ', iv', z⟩ : ∃ A' Γ' iv', Z (ι y) (π s') = .rt A' Γ' iv' := hZ y (π s')
        show Post B X.K (A :: T) (some v :: ts) _ (Z (ι y) (π s'))
        exact Post.more q3 (fun Γ => by rw [z]; exact fun e => nomatch e) (fun Γ => by rw [z]; exact fun e => nomatch e) (fun Γ => by rw [z]; exact fun e => nomatch e) rfl
    · refine .inl ⟨st (by omega), ?_⟩
      rw [List.drop_of_length_le (by omega)] at q2
      exact out g s2 σ' H' h2 q2
/-! ### while -/
def whN (c : γ → S → Rs S Bool) (b : γ → S → Rs S γ) : Nat → γ → S → Rs S γ
  | 0, _, _ => .st
  | n + 1, g, s => (c g s).bind fun t s' => if t = true then (b g s').bind fun g' s'' => whN c b n g' s'' else .ok g s'
def whL (c : γ → S → Rs S Bool) (b : γ → S → Rs S (Lp γ o)) : Nat → γ → S → Rs S (Wy γ o)
  | 0, _, _ => .st
  | n + 1, g, s => (c g s).bind fun t s' => if t = true then (b g s').bind fun r s'' => match r with
    | .nx g' => whL c b n g' s''
    | .ct g' => whL c b n g' s''
    | .bk g' => .ok (.nx g') s''
    | .go y => .ok (.go y) s'' else .ok (.nx g) s'
/-- while c: body; the fuel n is as large as one likes -/
theorem bl_while (n : Nat) {c : Expr} {body : List Stmt} {L : γ → S → List As} {mc : γ → M S Bool} {b : γ → S → Rs S γ} {g0 : γ} {kr : γ → S → Rs Ω o}
    (hc : ∀ g, Et X W (L g) c (mc g)) (hEh : ∀ g, EhOk X (L g) π Eh) (hw0 : ∀ s, WkL (Γ s) (L g0 s)) (hb : ∀ g, Bl X W (L g) body (b g) (ZN L) fun x s => Eh x (π s)) (hr : ∀ g, Bl X W (L g) rest (kr g) Z Eh)
    (hp : PassesOwn (model X.prog X.w) X.A X.env X.xe) : Bl X W Γ (.While c body [] pos :: rest) (bdo π (whN mc b n g0) (fun _ s => s) kr) Z Eh := by
  have hT : ∃ tc, PT X c tc ∧ ∀ g, EtR X W (L g) tc (mc g) := by
    refine ⟨fun σ H Q => ∃ t, PT X c t ∧ t σ H Q, ⟨fun pins s σ H Q I ⟨t, ht, h⟩ => ht.run pins s σ H Q I h⟩, fun g => ?_⟩
    obtain ⟨t, ht, hr⟩ := hc g
    exact fun B T ts σ H Q s hl hh hw => ⟨t, ht, hr B T ts σ H Q s hl hh hw⟩
  obtain ⟨tc, pc, rc⟩ := hT
  refine ⟨_, pss_cons (ps_while hp pc (pss_any (ss := body))) pss_any, fun B T ts σ H D s hl hh hw => ?_⟩
  have q := bdo_wp.mp hw
  refine ⟨fun m σ' H' => ∃ g s, Hold B X.K (T ++ L g s) (ts ++ σ') H' ∧ (whN mc b m g s).wp (fun g s => (kr g s).wp (fun x w => Post B X.K T ts D (Z x w)) fun x w => ∀ C d σ' H', Eh x w B T ts σ' C d H' → W C d σ' H') (fun x s => ∀ C d σ' H', Eh x (π s) B T ts σ' C d H' → W C d σ' H'), ⟨n, g0, s, hh.wk (hw0 s), q⟩, fun m σ1 H1 ⟨g, s1, h1, q1⟩ => ?_⟩
  cases m with
  | zero => exact q1.elim
  | succ m =>
    have q1 : ((mc g s1).bind fun t s' => if t = true then (b g s').bind fun g' s'' => whN mc b m g' s'' else .ok g s').wp _ _ := q1
    rw [Rs.wp_bind] at q1
    refine rc g B T ts σ1 H1 _ s1 hl h1 (q1.mono (fun t s2 q2 H2 h2 => ?_) fun x s2 q2 C d H' hx => q2 C d σ1 H' (hEh g s2 x B T ts σ1 C d H' hl hx))
    cases t with
    | true =>
      rw [if_pos rfl] at q2 ⊢
      rw [Rs.wp_bind] at q2
      refine ⟨fun σ3 H3 => ∃ g s, Hold B X.K (T ++ L g s) (ts ++ σ3) H3 ∧ (whN mc b m g s).wp (fun g s => (kr g s).wp (fun x w => Post B X.K T ts D (Z x w)) fun x w => ∀ C d σ' H', Eh x w B T ts σ' C d H' → W C d σ' H') (fun x s => ∀ C d σ' H', Eh x (π s) B T ts σ' C d H' → W C d σ' H'), fun σ3 H3 n3 => ⟨m, Nat.lt_succ_self m, n3⟩, ?_⟩
      exact (hb g).any B T ts σ1 H2 _ s2 hl h2 (q2.mono (fun g' s' q3 σ5 H5 h5 => ⟨g', s', h5, q3⟩) fun x s' q3 => q3)
    | false =>
      rw [if_neg Bool.false_ne_true] at q2 ⊢
      exact (hr g).any B T ts σ1 H2 D s2 hl h2 q2
theorem bl_whileL (n : Nat) {c : Expr} {body : List Stmt} {L : γ → S → List As} {mc : γ → M S Bool} {ι : o2 → o} {b : γ → S → Rs S (Lp γ o2)} {g0 : γ} {kr : γ → S → Rs Ω o}
    (hc : ∀ g, Et X W (L g) c (mc g)) (hEh : ∀ g, EhOk X (L g) π Eh) (hw0 : ∀ s, WkL (Γ s) (L g0 s)) (hb : ∀ g, Bl X W (L g) body (b g) (ZL L (fun y w => Z (ι y) w) π) fun x s => Eh x (π s)) (hr : ∀ g, Bl X W (L g) rest (kr g) Z Eh) (hZ : OnlyRt (fun y w => Z (ι y) w))
    (hp : PassesOwn (model X.prog X.w) X.A X.env X.xe) : Bl X W Γ (.While c body [] pos :: rest) (bdo π (whL mc b n g0) (fun _ s => s) (wyk π ι kr)) Z Eh := by
  have hT : ∃ tc, PT X c tc ∧ ∀ g, EtR X W (L g) tc (mc g) := by
    refine ⟨fun σ H Q => ∃ t, PT X c t ∧ t σ H Q, ⟨fun pins s σ H Q I ⟨t, ht, h⟩ => ht.run pins s σ H Q I h⟩, fun g => ?_⟩
    obtain ⟨t, ht, hr⟩ := hc g
    exact fun B T ts σ H Q s hl hh hw => ⟨t, ht, hr B T ts σ H Q s hl hh hw⟩
  obtain ⟨tc, pc, rc⟩ := hT
  refine ⟨_, pss_cons (ps_while hp pc (pss_any (ss := body))) pss_any, fun B T ts σ H D s hl hh hw => ?_⟩
  have q := bdo_wp.mp hw
  generalize hPP : (fun (g : Wy γ o2) s => (wyk π ι kr g s).wp (fun x w => Post B X.K T ts D (Z x w)) fun x w => ∀ C d σ' H', Eh x w B T ts σ' C d H' → W C d σ' H') = PP at q
  have out : ∀ g s2 σ' H', Hold B X.K (T ++ L g s2) (ts ++ σ') H' → PP (.nx g) s2 → tAnyS X rest D σ' H' := fun g s2 σ' H' h2 q => by
    subst hPP
    exact (hr g).any B T ts σ' H' D s2 hl h2 q
  refine ⟨fun m σ' H' => ∃ g s, Hold B X.K (T ++ L g s) (ts ++ σ') H' ∧ (whL mc b m g s).wp PP (fun x s => ∀ C d σ' H', Eh x (π s) B T ts σ' C d H' → W C d σ' H'), ⟨n, g0, s, hh.wk (hw0 s), q⟩, fun m σ1 H1 ⟨g, s1, h1, q1⟩ => ?_⟩
  cases m with
  | zero => exact q1.elim
  | succ m =>
    have q1 : ((mc g s1).bind fun t s' => if t = true then (b g s').bind fun r s'' => match r with
      | .nx g' => whL mc b m g' s''
      | .ct g' => whL mc b m g' s''
      | .bk g' => .ok (.nx g') s''
      | .go y => .ok (.go y) s'' else .ok (.nx g) s').wp _ _ := q1
    rw [Rs.wp_bind] at q1
    refine rc g B T ts σ1 H1 _ s1 hl h1 (q1.mono (fun t s2 q2 H2 h2 => ?_) fun x s2 q2 C d H' hx => q2 C d σ1 H' (hEh g s2 x B T ts σ1 C d H' hl hx))
    cases t with
    | true =>
      rw [if_pos rfl] at q2 ⊢
      rw [Rs.wp_bind] at q2
      refine ⟨fun σ3 H3 => ∃ g s, Hold B X.K (T ++ L g s) (ts ++ σ3) H3 ∧ (whL mc b m g s).wp PP (fun x s => ∀ C d σ' H', Eh x (π s) B T ts σ' C d H' → W C d σ' H'), fun σ3 H3 n3 => ⟨m, Nat.lt_succ_self m, n3⟩, ?_⟩
      refine (hb g).any B T ts σ1 H2 _ s2 hl h2 (q2.mono (fun r s' q3 => ?_) fun x s' q3 => q3)
      cases r with
      | nx g' => exact fun σ5 H5 h5 => ⟨g', s', h5, q3⟩
      | ct g' => exact fun σ5 H5 h5 => ⟨g', s', h5, q3⟩
      | bk g' => exact fun σ5 H5 h5 => out g' s' σ5 H5 h5 q3
      | go y =>
        subst hPP
        have q3 : Post B X.K T ts D (Z (ι y) (π s')) := q3
        obtain ⟨A', Γ', iv', z⟩ : ∃ A' Γ' iv', Z (ι y) (π s') = .rt A' Γ' iv' := hZ y (π s')
        show Post B X.K T ts _ (Z (ι y) (π s'))
        rw [z] at q3 ⊢
        exact q3
    | false =>
      rw [if_neg Bool.false_ne_true] at q2 ⊢
      exact out g s2 σ1 H2 h2 q2
end
end G

set_option maxHeartbeats 4000000
/-! G8: list comprehensions. -/
namespace G
open PySem PySem.Spec PyProof.Rows L2
section
variable {S α β γ : Type}
/-- an exception may not leave here -/
def nr (m : M S α) : M S α := fun s => match m s with
  | .ok a s' => .ok a s'
  | _ => .st
theorem nr_wp {m : M S α} {s : S} {P : α → S → Prop} {R R' : Exn → S → Prop} (h : (nr m s).wp P R) : (m s).wp P R' := by
  unfold nr at h
  cases e : m s with
  | ok a s' => rw [e] at h; exact h
  | er x s' => rw [e] at h; exact h.elim
  | st => rw [e] at h; exact h.elim
theorem nr_ret {a : α} : nr (ret a : M S α) = ret a := rfl
/-- the items of a comprehension -/
def lcN (t : α → M S Bool) (f : α → M S β) : List α → M S (List β)
  | [] => ret []
  | x :: xs => nr (t x) >>= fun c => if c = true then nr (f x) >>= fun y => lcN t f xs >>= fun ys => ret (y :: ys) else lcN t f xs
def lcM (t : α → M S Bool) (f : α → M S β) (xs : List α) : M S (List β) := if xs.length ≤ SZ then lcN t f xs else stk
/-- without a test -/
def mpN (f : α → M S β) : List α → M S (List β)
  | [] => ret []
  | x :: xs => nr (f x) >>= fun y => mpN f xs >>= fun ys => ret (y :: ys)
def mpM (f : α → M S β) (xs : List α) : M S (List β) := if xs.length ≤ SZ then mpN f xs else stk
theorem lcN_yes (f : α → M S β) : ∀ xs, lcN (fun _ => ret true) f xs = mpN f xs
  | [] => rfl
  | x :: xs => by
    show (nr (f x) >>= fun y => lcN (fun _ => ret true) f xs >>= fun ys => ret (y :: ys)) = _
    rw [lcN_yes f xs]
    rfl
theorem lcM_yes (f : α → M S β) (xs : List α) : lcM (fun _ => ret true) f xs = mpM f xs := by
  unfold lcM mpM
  rw [lcN_yes]
end
abbrev W0 : WX := fun _ _ _ _ => False
/-- the blocks of a comprehension -/
abbrev Blk (X : Cx) (scope : Scope) (s : Shared) (H : Hp) (C : Addr) (cl : List (Str × Addr)) (fp : List Addr) : Cx := X.blk s H scope (compEnvC scope cl C X.env) fp
def semE (X : Cx) (scope : Scope) (e : Expr) : TE := fun σ H Q => ∀ s0 H0 C cl fp pins s, Inv (Blk X scope s0 H0 C cl fp) pins σ H s → wpAny (model X.prog X.w) X.A (eval e (Blk X scope s0 H0 C cl fp).env) (EP (Blk X scope s0 H0 C cl fp) pins σ Q) (fun _ _ => False) s
def semT (X : Cx) (scope : Scope) (e : Expr) : TT := fun σ H Q => ∀ s0 H0 C cl fp pins s, Inv (Blk X scope s0 H0 C cl fp) pins σ H s → wpAny (model X.prog X.w) X.A (isTrue e (Blk X scope s0 H0 C cl fp).env (eval e (Blk X scope s0 H0 C cl fp).env)) (TP (Blk X scope s0 H0 C cl fp) pins σ Q) (fun _ _ => False) s
def semG (X : Cx) (scope : Scope) (tg : Expr) : TG := fun v σ H Q => ∀ s0 H0 C cl fp pins s u, Inv (Blk X scope s0 H0 C cl fp) pins σ H s → RelV v u → wpAny (model X.prog X.w) X.A (assign tg (Blk X scope s0 H0 C cl fp).env u) (fun _ s' => ∃ σ' H', Inv (Blk X scope s0 H0 C cl fp) pins σ' H' s' ∧ Q σ' H') (fun _ _ => False) s
section
variable {X : Cx} {W : WX} {S α β γ : Type} {Γ : S → List As} {e : Expr} {pos : Pos} {P : α → As} {scope : Scope}
theorem pe_sem {e : Expr} {s0 H0 C cl fp} : PE (Blk X scope s0 H0 C cl fp) e (semE X scope e) := ⟨fun pins s σ H Q I h => h _ _ _ _ _ pins s I⟩
theorem pt_sem {e : Expr} {s0 H0 C cl fp} : PT (Blk X scope s0 H0 C cl fp) e (semT X scope e) := ⟨fun pins s σ H Q I h => h _ _ _ _ _ pins s I⟩
theorem pg_sem {e : Expr} {s0 H0 C cl fp} : PG (Blk X scope s0 H0 C cl fp) e (semG X scope e) := ⟨fun pins s σ H v u Q I r h => h _ _ _ _ _ pins s u I r⟩
theorem exr_sem {f : M S β} {Pe : β → As} (h : ∀ s0 H0 C cl fp, Ex (Blk X scope s0 H0 C cl fp) W0 Γ e f Pe) : ExR X W0 Γ (semE X scope e) f Pe := by
  intro B T ts σ H Q s hl hh hw s0 H0 C cl fp pins st I
  obtain ⟨t, ht, hr⟩ := h s0 H0 C cl fp
  exact ht.run pins st σ H Q I (hr B T ts σ H Q s hl hh hw)
theorem etr_sem {f : M S Bool} (h : ∀ s0 H0 C cl fp, Et (Blk X scope s0 H0 C cl fp) W0 Γ e f) : EtR X W0 Γ (semT X scope e) f := by
  intro B T ts σ H Q s hl hh hw s0 H0 C cl fp pins st I
  obtain ⟨t, ht, hr⟩ := h s0 H0 C cl fp
  exact ht.run pins st σ H Q I (hr B T ts σ H Q s hl hh hw)
/-- the slots of the block's own names are forgotten ahead of it and behind it -/
theorem wipe_at (σ : L2.St) : ∀ (vs : List Nat) (n : Nat), n ∉ vs → (wipe σ vs)[n]? = σ[n]?
  | [], _, _ => rfl
  | v :: vs, n, h => by
    unfold wipe
    rw [List.getElem?_set_ne (by intro z; exact h (by simp [z]))]
    exact wipe_at σ vs n fun z => h (List.mem_cons_of_mem _ z)
theorem wipe_in (σ : L2.St) : ∀ (vs : List Nat) (n : Nat), n ∈ vs → n < σ.length → (wipe σ vs)[n]? = some none
  | [], _, h, _ => by cases h
  | v :: vs, n, h, hn => by
    unfold wipe
    by_cases e : v = n
    · subst e
      rw [List.getElem?_set_self (by rw [wipe_length]; exact hn)]
    · rw [List.getElem?_set_ne e]
      refine wipe_in σ vs n ?_ hn
      rcases List.mem_cons.mp h with z | z
      · exact absurd z.symm e
      · exact z
theorem wipe_eq {σ σ' : L2.St} {vs : List Nat} (hl : σ'.length = σ.length) (h : ∀ n : Nat, n ∉ vs → σ'[n]? = σ[n]?) : wipe σ' vs = wipe σ vs := by
  refine List.ext_getElem? fun n => ?_
  by_cases hn : n ∈ vs
  · by_cases hk : n < σ.length
    · rw [wipe_in σ' vs n hn (by omega), wipe_in σ vs n hn hk]
    · rw [List.getElem?_eq_none (by rw [wipe_length]; omega), List.getElem?_eq_none (by rw [wipe_length]; omega)]
  · rw [wipe_at σ' vs n hn, wipe_at σ vs n hn, h n hn]
theorem Hold.slots {B : Ent} {K : PySem.W.Frag} {T L L' : List As} {ts σ σ' : List (Option V)} {H : Hp} (hl : ts.length = T.length) (h : Hold B K (T ++ L) (ts ++ σ) H) (hs : σ'.length = σ.length) (hL : L'.length = L.length) (k : ∀ (i : Nat) (A : As), L'[i]? = some A → A = aNo ∨ (L[i]? = some A ∧ σ'[i]? = σ[i]?)) : Hold B K (T ++ L') (ts ++ σ') H := by
  have hn := h.len
  simp only [List.length_append] at hn
  refine h.re id (fun _ _ _ _ e => e) (by simp; omega) fun i A e => ?_
  by_cases hi : i < T.length
  · rw [List.getElem?_append_left hi] at e
    refine .inr ⟨by simp only [id]; rw [List.getElem?_append_left hi]; exact e, fun o q => ?_⟩
    simp only [id] at q
    rw [List.getElem?_append_left (by omega)] at q ⊢
    exact q
  · rw [List.getElem?_append_right (by omega)] at e
    rcases k _ A e with z | ⟨z1, z2⟩
    · refine .inl ⟨z, ?_⟩
      have := (List.getElem?_eq_some_iff.mp e).1
      exact ⟨_, List.getElem?_eq_getElem (by simp; omega)⟩
    · refine .inr ⟨by simp only [id]; rw [List.getElem?_append_right (by omega)]; exact z1, fun o q => ?_⟩
      simp only [id] at q
      rw [List.getElem?_append_right (by omega)] at q ⊢
      rw [hl] at q ⊢
      rw [z2]; exact q
/-- the block's own slots are not used -/
def Unused (Γ : S → List As) (vs : List Nat) : Prop := ∀ s, ∀ n ∈ vs, ∀ A, (Γ s)[n]? = some A → A = aNo
theorem allR_app {K : PySem.W.Frag} {F : Hp} : ∀ {L L' : List As} {vs vs' : List V}, AllR K F L vs → AllR K F L' vs' → AllR K F (L ++ L') (vs ++ vs')
  | _, _, _, _, .nil, h => h
  | _, _, _, _, .cons r t, h => .cons r (allR_app t h)
theorem Hold.swap {B : Ent} {K : PySem.W.Frag} {A C : As} {L : List As} {o o' : Option V} {vs : List (Option V)} {H : Hp} (h : Hold B K (A :: C :: L) (o :: o' :: vs) H) : Hold B K (C :: A :: L) (o' :: o :: vs) H := Hold.front (L1 := [A]) (v1 := [o]) h rfl
theorem lcN_no {t : α → M S Bool} {f : α → M S β} : ∀ {xs : List α} {s : S} {PP : List β → S → Prop} {RR RR' : Exn → S → Prop}, (lcN t f xs s).wp PP RR → (lcN t f xs s).wp PP RR'
  | [], _, _, _, _, h => h
  | x :: xs, s, PP, RR, RR', h => by
    have h : ((nr (t x) >>= fun c => if c = true then nr (f x) >>= fun y => lcN t f xs >>= fun ys => ret (y :: ys) else lcN t f xs) s).wp PP RR := h
    show ((nr (t x) >>= fun c => if c = true then nr (f x) >>= fun y => lcN t f xs >>= fun ys => ret (y :: ys) else lcN t f xs) s).wp PP RR'
    rw [bind_wp] at h ⊢
    have no : ∀ {δ : Type} {m : M S δ} {s : S} {P : δ → S → Prop}, (nr m s).wp P RR → (nr m s).wp P RR' := fun {δ m s P} h => by
      unfold nr at h ⊢
      cases e : m s with
      | ok a s' => rw [e] at h; exact h
      | er x s' => rw [e] at h; exact h.elim
      | st => rw [e] at h; exact h.elim
    refine no (h.mono (fun c s1 q => ?_) fun _ _ q => q)
    cases c with
    | true =>
      have q : ((nr (f x) >>= fun y => lcN t f xs >>= fun ys => ret (y :: ys)) s1).wp PP RR := q
      show ((nr (f x) >>= fun y => lcN t f xs >>= fun ys => ret (y :: ys)) s1).wp PP RR'
      rw [bind_wp] at q ⊢
      refine no (q.mono (fun y s2 q2 => ?_) fun _ _ q => q)
      rw [bind_wp] at q2 ⊢
      exact lcN_no (q2.mono (fun _ _ q => q) fun _ _ q => q)
    | false => exact lcN_no q
theorem lc_run {wi : TI} {g : TG} {tt : TT} {te : TE} {vs is : List Nat} {up : α → List As → List As} {mi : M S (List α)} {Γe : α → S → List As} {t : α → M S Bool} {f : α → M S β} {Pe : β → As}
    (ri : EsR X W Γ wi mi P) (hu1 : ∀ x L n, n ∉ is → (up x L)[n]? = L[n]?) (hu2 : ∀ x L, (up x L).length = L.length)
    (hg : ∀ x B T ts σ H L v Q, ts.length = T.length → Hold B X.K (P x :: (T ++ L)) (some v :: (ts ++ σ)) H → (∀ σ' : L2.St, σ'.length = σ.length → (∀ n : Nat, n ∉ is → σ'[n]? = σ[n]?) → Hold B X.K (T ++ up x L) (ts ++ σ') H → Q σ' H) → g v σ H Q)
    (his : ∀ n ∈ is, n ∈ vs) (hun : Unused Γ vs) (hΓ : ∀ x s, up x (Γ s) = Γe x s) (rt : ∀ x, EtR X W0 (Γe x) tt (t x)) (re : ∀ x, ExR X W0 (Γe x) te (f x) Pe) (hpe : ∀ y, Pers (Pe y))
    {B : Ent} {T : List As} {ts : List (Option V)} {σ : L2.St} {H : Hp} {Q : VK} {s : S} (hl : ts.length = T.length) (hh : Hold B X.K (T ++ Γ s) (ts ++ σ) H)
    (hw : ((mi >>= fun xs => lcM t f xs) s).wp (fun ys s' => ∀ v H', Hold B X.K (aLs (ys.map Pe) :: (T ++ Γ s')) (some v :: (ts ++ σ)) H' → Q v H') (fun x s' => ∀ C d H', HoldX X.mg B X.K x (T ++ Γ s') (ts ++ σ) C d H' → W C d σ H')) : tLc wi g tt te vs σ H Q := by
  rw [bind_wp] at hw
  refine ri B T ts σ H _ s hl hh (hw.mono (fun xs s1 q J A v H1 h1 hwk => ?_) fun _ _ q => q)
  generalize hPP : (fun (ys : List β) (s' : S) => ∀ v H', Hold B X.K (aLs (ys.map Pe) :: (T ++ Γ s')) (some v :: (ts ++ σ)) H' → Q v H') = PP at q
  have hz : xs.length ≤ SZ ∧ (lcN t f xs s1).wp PP (fun _ _ => False) := by
    unfold lcM at q
    by_cases c : xs.length ≤ SZ
    · rw [if_pos c] at q
      exact ⟨c, lcN_no q⟩
    · rw [if_neg c] at q
      exact q.elim
  obtain ⟨hz, q⟩ := hz
  intro D nD
  refine ⟨fun i m H => i + m = xs.length ∧ ∃ acc s, acc.length ≤ i ∧ Hold B X.K (aLs (acc.map Pe) :: A :: (T ++ Γ s)) (some (.ref D) :: some v :: (ts ++ wipe σ vs)) H ∧ (lcN t f (xs.drop i) s).wp (fun ys s' => PP (acc ++ ys) s') (fun _ _ => False), ⟨xs.length, by omega, [], s1, Nat.le_refl _, ?_, by rw [List.drop_zero]; exact q⟩, fun i m H2 ⟨him, acc, s2, hacc, h2, q2⟩ => ?_⟩
  · have h2 : Hold B X.K ((A :: T) ++ Γ s1) ((some v :: ts) ++ wipe σ vs) H1 := Hold.slots (T := A :: T) (ts := some v :: ts) (by simp [hl]) h1 (wipe_length _ _) rfl fun n C e => by
      by_cases hn : n ∈ vs
      · exact .inl (hun s1 n hn C e)
      · exact .inr ⟨e, wipe_at _ _ _ hn⟩
    exact h2.own nD fun F eF k => ⟨D, [], rfl, rfl, .nil⟩
  · have hsl : (Γ s2).length = σ.length := by
      have := h2.len
      simp only [List.length_cons, List.length_append, wipe_length] at this
      omega
    obtain ⟨go, st⟩ := hwk B _ _ H2 i h2.swap
    by_cases hi : i < xs.length
    · obtain ⟨g1, g2⟩ := go xs[i] (List.getElem?_eq_getElem hi)
      rw [List.drop_eq_getElem_cons hi] at q2
      have q2 : ((nr (t xs[i]) >>= fun c => if c = true then nr (f xs[i]) >>= fun y => lcN t f (xs.drop (i + 1)) >>= fun ys => ret (y :: ys) else lcN t f (xs.drop (i + 1))) s2).wp (fun ys s' => PP (acc ++ ys) s') (fun _ _ => False) := q2
      rw [bind_wp] at q2
      refine .inr ⟨g1, fun H3 => i + 1 + (m - 1) = xs.length ∧ ∃ acc s, acc.length ≤ i + 1 ∧ Hold B X.K (aLs (acc.map Pe) :: A :: (T ++ Γ s)) (some (.ref D) :: some v :: (ts ++ wipe σ vs)) H3 ∧ (lcN t f (xs.drop (i + 1)) s).wp (fun ys s' => PP (acc ++ ys) s') (fun _ _ => False), fun H3 n3 => ⟨m - 1, by omega, n3⟩, fun u H3 y => ?_⟩
      have h3 := g2 u H3 y
      refine hg xs[i] B (A :: aLs (acc.map Pe) :: T) (some v :: some (.ref D) :: ts) (wipe σ vs) H3 (Γ s2) u _ (by simp [hl]) h3 fun σ4 l4 o4 h4 => ?_
      have hw4 : wipe σ4 vs = wipe σ vs := by
        rw [wipe_eq (σ := wipe σ vs) l4 fun n hn => o4 n fun z => hn (his n z), wipe_eq (σ := σ) (wipe_length _ _) fun n hn => wipe_at _ _ _ hn]
      refine ⟨hw4, ?_⟩
      rw [hΓ] at h4
      -- back to the loop's head
      have back : ∀ {acc' : List β} {s' : S} {H' : Hp}, Hold B X.K ((A :: aLs (acc'.map Pe) :: T) ++ Γe xs[i] s') ((some v :: some (.ref D) :: ts) ++ σ4) H' → Hold B X.K (aLs (acc'.map Pe) :: A :: (T ++ Γ s')) (some (.ref D) :: some v :: (ts ++ wipe σ vs)) H' := by
        intro acc' s' H' h5
        have hgl : (Γe xs[i] s').length = (Γ s').length := by rw [← hΓ, hu2]
        have h6 := Hold.slots (L' := Γ s') (σ' := wipe σ vs) (T := A :: aLs (acc'.map Pe) :: T) (ts := some v :: some (.ref D) :: ts) (by simp [hl]) h5 (by rw [wipe_length] at l4 ⊢; omega) hgl.symm fun n C e => by
          by_cases hn : n ∈ vs
          · exact .inl (hun s' n hn C e)
          · refine .inr ⟨?_, (o4 n fun z => hn (his n z)).symm⟩
            rw [← hΓ, hu1 _ _ _ fun z => hn (his n z)]
            exact e
        exact h6.swap
      refine rt xs[i] B (A :: aLs (acc.map Pe) :: T) (some v :: some (.ref D) :: ts) σ4 H3 _ s2 (by simp [hl]) h4 (nr_wp (q2.mono (fun c s3 q3 H4 h5 => ?_) fun _ _ z => z))
      cases c with
      | false => exact ⟨by omega, acc, s3, by omega, back h5, q3⟩
      | true =>
        have q3 : ((nr (f xs[i]) >>= fun y => lcN t f (xs.drop (i + 1)) >>= fun ys => ret (y :: ys)) s3).wp (fun ys s' => PP (acc ++ ys) s') (fun _ _ => False) := q3
        rw [bind_wp] at q3
        refine re xs[i] B (A :: aLs (acc.map Pe) :: T) (some v :: some (.ref D) :: ts) σ4 H4 _ s3 (by simp [hl]) h5 (nr_wp (q3.mono (fun b s4 q4 y5 H5 h6 => ?_) fun _ _ z => z))
        rw [bind_wp] at q4
        have h6 : Hold B X.K (Pe b :: A :: aLs (acc.map Pe) :: (T ++ Γe xs[i] s4)) (some y5 :: some v :: some (.ref D) :: (ts ++ σ4)) H5 := h6
        obtain ⟨o, F, O, e1, eF, eO, p, ws, e2, e3, e4⟩ := h6.get (i := 2) rfl
        cases e1
        have e2 := Option.some.inj e2
        cases e2
        have hlen := e4.len
        rw [List.length_map] at hlen
        refine ⟨ws, eO _ _ (by rw [e3]; exact one_at), by rw [SZ_eq]; omega, by omega, acc ++ [b], s4, by simp; omega, back (acc' := acc ++ [b]) ?_, ?_⟩
        · have h7 := h6.write (i := 2) (p := D) (o' := .lst (ws ++ [y5])) (A' := aLs ((acc ++ [b]).map Pe)) rfl fun F' O' u e1' eF' eO' r' rd' => by
            obtain ⟨p', ws', z2, z3, z4⟩ := r'
            cases e1'
            have z2 := Option.some.inj z2
            cases z2
            have ew : ws' = ws := by
              have a1 : H5 D = some (.lst ws') := eO' _ _ (by rw [z3]; exact one_at)
              have a2 : H5 D = some (.lst ws) := eO _ _ (by rw [e3]; exact one_at)
              rw [a1] at a2
              cases a2
              rfl
            subst ew
            obtain ⟨u0, O0, y1, _, y2⟩ := rd' 0 (Pe b) rfl
            cases y1
            have y3 := (hpe b).eO y2
            subst y3
            refine ⟨⟨_, by rw [z3]; exact one_at⟩, D, ws' ++ [y5], rfl, ?_, ?_⟩
            · rw [z3]; exact upd_upd
            · rw [List.map_append]
              exact allR_app z4 (.cons y2 .nil)
          exact h7.pop
        · refine q4.mono (fun ys s5 q5 => ?_) fun _ _ z => z
          have q5 : PP (acc ++ (b :: ys)) s5 := q5
          rw [List.append_assoc]
          exact q5
    · refine .inl ⟨st (by omega), ?_⟩
      rw [List.drop_of_length_le (by omega)] at q2
      have q2 : PP (acc ++ []) s2 := q2
      rw [List.append_nil] at q2
      subst hPP
      refine q2 _ _ ?_
      have h3 := h2.drop1
      exact Hold.slots (T := aLs (acc.map Pe) :: T) (ts := some (.ref D) :: ts) (by simp [hl]) h3 (wipe_length _ _).symm rfl fun n C e => by
        by_cases hn : n ∈ vs
        · exact .inl (hun s2 n hn C e)
        · exact .inr ⟨e, (wipe_at _ _ _ hn).symm⟩
/-- a comprehension, to be taken as a value or given to a name -/
def LcJ (X : Cx) (W : WX) (Γ : S → List As) (elt tg iter : Expr) (ifs : List Expr) (scope : Scope) (m : M S α) (P : α → As) : Prop := ∃ (own : List (Str × Nat)) (wi : TI) (g : TG) (tt : TT) (te : TE), PI X tg iter wi ∧ BlkOk X.N X.env.scope scope own ∧ (∀ s H C cl fp, PG (Blk X scope s H C cl fp) tg g) ∧ (∀ s H C cl fp, PTs (Blk X scope s H C cl fp) ifs tt) ∧ (∀ s H C cl fp, PE (Blk X scope s H C cl fp) elt te) ∧ X.calm = true ∧ X.N.Nodup ∧ ExR X W Γ (tLc wi g tt te (own.map (·.2))) m P
/-- [elt for tg in iter] -/
theorem lcj {tg elt iter : Expr} (own : List (Str × Nat)) {is : List Nat} {up : α → List As → List As} {mi : M S (List α)} (Γe : α → S → List As) {f : α → M S β} {Pe : β → As} (hi : Es X W tg Γ iter mi P) (ht : ∀ s0 H0 C cl fp, Tg (Blk X scope s0 H0 C cl fp) tg P is up) (hΓ : ∀ x s, up x (Γ s) = Γe x s)
    (he : ∀ s0 H0 C cl fp x, Ex (Blk X scope s0 H0 C cl fp) W0 (Γe x) elt (f x) Pe) (hpe : ∀ y, Pers (Pe y)) (his : ∀ n ∈ is, n ∈ own.map (·.2)) (hun : Unused Γ (own.map (·.2))) (hc : X.calm = true) (hN : X.N.Nodup) (ok : BlkOk X.N X.env.scope scope own) :
    LcJ X W Γ elt tg iter [] scope (mi >>= fun xs => mpM f xs) (aL Pe) := by
  obtain ⟨wi, pi, ri⟩ := hi
  obtain ⟨u1, u2, _⟩ := ht X.s_0 X.H_0 X.env.locals [] []
  refine ⟨own, wi, semG X scope tg, tYes, semE X scope elt, pi, ok, fun _ _ _ _ _ => pg_sem, fun _ _ _ _ _ => pts_nil, fun _ _ _ _ _ => pe_sem, hc, hN, fun B T ts σ H Q s hl hh hw => ?_⟩
  refine lc_run (t := fun _ => ret true) ri u1 u2 (fun x B T ts σ H L v Q hl h q => ?_) his hun hΓ (fun x B T ts σ H Q s hl hh hw => hw H hh) (fun x => exr_sem fun s0 H0 C cl fp => he s0 H0 C cl fp x) hpe hl hh ?_
  · intro s0 H0 C cl fp pins st u I r
    obtain ⟨_, _, g, pg, hg⟩ := ht s0 H0 C cl fp
    exact pg.run pins st σ H v u Q I r (hg x B T ts σ H L v Q hl h q)
  · have e : (fun xs => lcM (fun _ => ret true) f xs) = fun xs => mpM f xs := funext fun xs => lcM_yes f xs
    rw [e]
    exact hw
/-- [elt for tg in iter if c] -/
theorem lcjIf {tg elt iter c : Expr} (own : List (Str × Nat)) {is : List Nat} {up : α → List As → List As} {mi : M S (List α)} (Γe : α → S → List As) {t : α → M S Bool} {f : α → M S β} {Pe : β → As} (hi : Es X W tg Γ iter mi P) (ht : ∀ s0 H0 C cl fp, Tg (Blk X scope s0 H0 C cl fp) tg P is up) (hΓ : ∀ x s, up x (Γ s) = Γe x s)
    (hcc : ∀ s0 H0 C cl fp x, Et (Blk X scope s0 H0 C cl fp) W0 (Γe x) c (t x)) (he : ∀ s0 H0 C cl fp x, Ex (Blk X scope s0 H0 C cl fp) W0 (Γe x) elt (f x) Pe) (hpe : ∀ y, Pers (Pe y)) (his : ∀ n ∈ is, n ∈ own.map (·.2)) (hun : Unused Γ (own.map (·.2))) (hc : X.calm = true) (hN : X.N.Nodup) (ok : BlkOk X.N X.env.scope scope own) :
    LcJ X W Γ elt tg iter [c] scope (mi >>= fun xs => lcM t f xs) (aL Pe) := by
  obtain ⟨wi, pi, ri⟩ := hi
  obtain ⟨u1, u2, _⟩ := ht X.s_0 X.H_0 X.env.locals [] []
  refine ⟨own, wi, semG X scope tg, semT X scope c, semE X scope elt, pi, ok, fun _ _ _ _ _ => pg_sem, fun _ _ _ _ _ => pts_one pt_sem, fun _ _ _ _ _ => pe_sem, hc, hN, fun B T ts σ H Q s hl hh hw => ?_⟩
  refine lc_run (t := t) ri u1 u2 (fun x B T ts σ H L v Q hl h q => ?_) his hun hΓ (fun x => etr_sem fun s0 H0 C cl fp => hcc s0 H0 C cl fp x) (fun x => exr_sem fun s0 H0 C cl fp => he s0 H0 C cl fp x) hpe hl hh hw
  intro s0 H0 C cl fp pins st u I r
  obtain ⟨_, _, g, pg, hg⟩ := ht s0 H0 C cl fp
  exact pg.run pins st σ H v u Q I r (hg x B T ts σ H L v Q hl h q)
theorem ex_lc {tg elt iter : Expr} {ifs : List Expr} {m : M S α} (h : LcJ X W Γ elt tg iter ifs scope m P) (hs : ∀ x, foldedSetIterable iter X.env x = pure x := by intro _; rfl) : Ex X W Γ (.ListComp elt [⟨tg, iter, ifs, 0⟩] scope pos) m P := by
  obtain ⟨own, wi, g, tt, te, pi, ok, hg, ht, he, hc, hN, hr⟩ := h
  exact ⟨_, pe_lc hc hN pi ok hg ht he hs, hr⟩
section
variable {S2 Ω o : Type} {rest : List Stmt} {Z : o → Ω → Kd} {Eh : EhT Ω} {π : S → Ω} {k : α → S2 → Rs Ω o} {mk : α → S → S2} {spos py : Pos} {me : M S α}
/-- x = [..] -/
theorem bl_setLc {tg elt iter : Expr} {ifs : List Expr} {x : Str} (i : Nat) {Γ2 : α → S2 → List As} (he : LcJ X W Γ elt tg iter ifs scope me P) (hEh : EhOk X Γ π Eh) (hk : ∀ a, Bl X W (Γ2 a) rest (k a) Z Eh) (hΓ : ∀ a s, (Γ s).set i (P a) = Γ2 a (mk a s))
    (hsw : swapsWith (.ListComp elt [⟨tg, iter, ifs, 0⟩] scope pos) (some (.Name x py)) spos.line X.env = pure true) (hi : X.N[i]? = some x := by rfl) (hyl : X.env.scope.names.lookup x = some .local := by rfl) (hs : ∀ x, foldedSetIterable iter X.env x = pure x := by intro _; rfl) :
    Bl X W Γ (.Assign [.Name x py] (.ListComp elt [⟨tg, iter, ifs, 0⟩] scope pos) spos :: rest) (bdo π me mk k) Z Eh := by
  obtain ⟨own, wi, g, tt, te, pi, ok, hg, ht, hee, hc, hN, hr⟩ := he
  refine ⟨_, pss_cons (ps_setLc (i := i) hc hN hi hyl hsw pi ok hg ht hee hs) pss_any, fun B T ts σ H D s hl hh hw => ?_⟩
  rw [bdo_wp] at hw
  show tLc wi g tt te (own.map (·.2)) σ H fun x H1 => gName i x σ H1 (tAnyS X rest D)
  refine hr B T ts σ H _ s hl hh (hw.mono (fun a s1 q v H1 h1 => ?_) fun x s1 q C d H' hx => q C d σ H' (hEh s1 x B T ts σ C d H' hl hx))
  have h2 := h1.store hl i
  rw [hΓ a s1] at h2
  exact (hk a).any B T ts _ H1 D _ hl h2 q
theorem bl_setLcP {tg elt iter : Expr} {ifs : List Expr} {x : Str} (i : Nat) {Γ2 : V → α → S2 → List As} (he : LcJ X W Γ elt tg iter ifs scope me P) (hEh : EhOk X Γ π Eh) (hk : ∀ v a, Bl X W (Γ2 v a) rest (k a) Z Eh) (hΓ : ∀ v a s, (Γ s).set i (aAt v (P a)) = Γ2 v a (mk a s))
    (hsw : swapsWith (.ListComp elt [⟨tg, iter, ifs, 0⟩] scope pos) (some (.Name x py)) spos.line X.env = pure true) (hi : X.N[i]? = some x := by rfl) (hyl : X.env.scope.names.lookup x = some .local := by rfl) (hs : ∀ x, foldedSetIterable iter X.env x = pure x := by intro _; rfl) :
    Bl X W Γ (.Assign [.Name x py] (.ListComp elt [⟨tg, iter, ifs, 0⟩] scope pos) spos :: rest) (bdo π me mk k) Z Eh := by
  obtain ⟨own, wi, g, tt, te, pi, ok, hg, ht, hee, hc, hN, hr⟩ := he
  refine ⟨_, pss_cons (ps_setLc (i := i) hc hN hi hyl hsw pi ok hg ht hee hs) pss_any, fun B T ts σ H D s hl hh hw => ?_⟩
  rw [bdo_wp] at hw
  show tLc wi g tt te (own.map (·.2)) σ H fun x H1 => gName i x σ H1 (tAnyS X rest D)
  refine hr B T ts σ H _ s hl hh (hw.mono (fun a s1 q v H1 h1 => ?_) fun x s1 q C d H' hx => q C d σ H' (hEh s1 x B T ts σ C d H' hl hx))
  have h2 := Hold.store (A := aAt v (P a)) hl (h1.imp0 fun F O r _ => ⟨rfl, r⟩) i
  rw [hΓ v a s1] at h2
  exact (hk v a).any B T ts _ H1 D _ hl h2 q
/-- the same, frozen -/
theorem LcJ.frz {tg elt iter : Expr} {ifs : List Expr} {m : M S α} {P' : α → As} (h : LcJ X W Γ elt tg iter ifs scope m P) (k : ∀ x, Frz (P x) (P' x)) : LcJ X W Γ elt tg iter ifs scope m P' := by
  obtain ⟨own, wi, g, tt, te, pi, ok, hg, ht, hee, hc, hN, hr⟩ := h
  refine ⟨own, wi, g, tt, te, pi, ok, hg, ht, hee, hc, hN, fun B T ts σ H Q s hl hh hw => hr B T ts σ H Q s hl hh (hw.mono (fun x s' q v H' z => q v H' ?_) fun _ _ q => q)⟩
  exact z.freeze fun F O r d => k x _ F O _ r d
end
end
end G

set_option maxHeartbeats 4000000
/-! G9: defs; names bound to comprehensions; lists changed in place. -/
namespace G
open PySem PySem.Spec PyProof.Rows L2
/-! ### a def by its body -/
section
variable {P : Program} {w : World} {K : PySem.W.Frag} {mg : Str → Option Value} {base : Heap} {x qual : Str} {params : Arguments} {body : List Stmt} {scope : Scope} {dvs : List V} {kws : List (Str × V)} {f : Addr} {fd : FuncData} {N ps : List Str} {ξ β Ω : Type}
/-- the body's context -/
abbrev Cb (P : Program) (w : World) (K : PySem.W.Frag) (mg : Str → Option Value) (base : Heap) (N : List Str) (qual : Str) (scope : Scope) (f : Addr) (cdv : Value) (A : Around) (outer : List Env) (s : Shared) (H : Hp) (E : XK) : Cx := cxOf (L2.CX P w) P w K mg base N qual scope f cdv A outer s H E
abbrev WF (E : XK) : WX := fun c d _ H => E c d H
def noS (n : Nat) : List As := List.replicate n aNo
theorem Hold.noS {B : Ent} {K : PySem.W.Frag} {L : List As} {vs : List (Option V)} {H : Hp} (h : Hold B K L vs H) (n : Nat) : Hold B K (L ++ noS n) (vs ++ List.replicate n none) H := by
  refine h.re id (fun _ _ _ _ e => e) (by have := h.len; simp [G.noS, this]) fun i A e => ?_
  by_cases hi : i < L.length
  · rw [List.getElem?_append_left hi] at e
    refine .inr ⟨e, fun o q => ?_⟩
    rw [List.getElem?_append_left (by have := h.len; omega)]
    exact q
  · rw [List.getElem?_append_right (by omega)] at e
    refine .inl ⟨?_, ?_⟩
    · unfold G.noS at e
      rw [List.getElem?_replicate] at e
      split at e
      · exact (Option.some.inj e).symm
      · cases e
    · have h2 : i - L.length < n := by
        have := (List.getElem?_eq_some_iff.mp e).1
        simpa [G.noS] using this
      exact ⟨none, by rw [List.getElem?_append_right (by have := h.len; omega), List.getElem?_replicate, if_pos (by have := h.len; omega)]⟩
/-- no parameter is handed back -/
theorem fn0 {k : Nat} {pin : ξ → List As} {pres : β → As} {m : ξ → M Unit β} {Γ : ξ → Unit → List As} (F : FunD K x qual params body scope dvs kws f fd) (Sc : FnScope N ps scope) (hpl : ∀ y, (pin y).length = ps.length) (hΓ : ∀ y, Γ y () = pin y ++ noS (N.length - ps.length))
    (hb : ∀ (cdv : Value) (A : Around) (outer : List Env) (s : Shared) (H : Hp) (E : XK), Room k (Cb P w K mg base N qual scope f cdv A outer s H E).A → Takes (Cb P w K mg base N qual scope f cdv A outer s H E) (WF E) → PassesOwn (model P w) (Cb P w K mg base N qual scope f cdv A outer s H E).A (Cb P w K mg base N qual scope f cdv A outer s H E).env (Cb P w K mg base N qual scope f cdv A outer s H E).xe →
      ∀ y, Bl (Cb P w K mg base N qual scope f cdv A outer s H E) (WF E) (Γ y) body (m y) (fun b _ => .rt (pres b) [] []) (ehF mg K (fun _ => []) [])) :
    FnOk P w K mg base (L2.CX P w) (k + 1) f fd ps (spC mg K pin [] pres (fun _ => []) fun y => m y ()) := by
  refine F.ok Sc (fun vs H Q E ⟨y, B, _, h, _⟩ => by have := h.len; rw [List.length_map, hpl] at this; omega) fun cdv A outer s H vs Q E hr ⟨y, B, eB, h, q⟩ => ?_
  have hv := h.len
  rw [List.length_map, hpl] at hv
  obtain ⟨t, ht, hR⟩ := hb cdv A outer s H E hr (takes_of rfl rfl rfl rfl) (passes_of (K := L2.CX P w outer H s E) rfl) y
  refine ⟨t, ht, hR B [] [] (start N vs) H _ () rfl ?_ (q.mono (fun b u q v H' h2 => q v H' h2) fun ex u q C d σ' H' hx => q C d H' hx)⟩
  · show Hold B K (Γ y ()) (start N vs) H
    rw [hΓ]
    unfold L2.start
    rw [← hv]
    exact h.noS _
/-- the parameter j is handed back -/
theorem fn1 {k : Nat} (j : Nat) {pin : ξ → List As} {pres : β → As} {A : Ω → As} {get : ξ → Ω} {m : ξ → M Ω β} {Γ : V → ξ → Ω → List As} (F : FunD K x qual params body scope dvs kws f fd) (Sc : FnScope N ps scope) (hpl : ∀ y, (pin y).length = ps.length) (hj : ∀ y, (pin y)[j]? = some (A (get y))) (hΓ : ∀ v y, Γ v y (get y) = (pin y).set j (aAt v (A (get y))) ++ noS (N.length - ps.length))
    (hb : ∀ (cdv : Value) (A' : Around) (outer : List Env) (s : Shared) (H : Hp) (E : XK), Room k (Cb P w K mg base N qual scope f cdv A' outer s H E).A → Takes (Cb P w K mg base N qual scope f cdv A' outer s H E) (WF E) → PassesOwn (model P w) (Cb P w K mg base N qual scope f cdv A' outer s H E).A (Cb P w K mg base N qual scope f cdv A' outer s H E).env (Cb P w K mg base N qual scope f cdv A' outer s H E).xe →
      ∀ v y, Bl (Cb P w K mg base N qual scope f cdv A' outer s H E) (WF E) (Γ v y) body (m y) (fun b u => .rt (pres b) [A u] [v]) (ehF mg K (fun w => [A w]) [v])) :
    FnOk P w K mg base (L2.CX P w) (k + 1) f fd ps (spC mg K pin [j] pres (fun w => [A w]) fun y => m y (get y)) := by
  refine F.ok Sc (fun vs H Q E ⟨y, B, _, h, _⟩ => by have := h.len; rw [List.length_map, hpl] at this; omega) fun cdv A' outer s H vs Q E hr ⟨y, B, eB, h, q⟩ => ?_
  have hv := h.len
  rw [List.length_map, hpl] at hv
  have hjl : j < (pin y).length := (List.getElem?_eq_some_iff.mp (hj y)).1
  have hjv : j < vs.length := by rw [hpl] at hjl; omega
  have evj : vs[j]? = some vs[j] := List.getElem?_eq_getElem hjv
  generalize hvj : vs[j] = v at evj
  obtain ⟨t, ht, hR⟩ := hb cdv A' outer s H E hr (takes_of rfl rfl rfl rfl) (passes_of (K := L2.CX P w outer H s E) rfl) v y
  refine ⟨t, ht, hR B [] [] (start N vs) H _ (get y) rfl ?_ (q.mono (fun b u q v2 H' h2 => q v2 H' ?_) fun ex u q C d σ' H' hx => q C d H' ?_)⟩
  · show Hold B K (Γ v y (get y)) (start N vs) H
    rw [hΓ]
    unfold L2.start
    rw [← hv]
    refine Hold.noS ?_ _
    refine h.weak (by simp) fun i C e => ?_
    by_cases hij : i = j
    · subst hij
      rw [List.getElem?_set_self hjl] at e
      cases e
      refine ⟨_, hj y, .inr fun F O o q r => ⟨?_, r⟩⟩
      rw [List.getElem?_map, evj] at q
      exact (Option.some.inj q).symm
    · rw [List.getElem?_set_ne (Ne.symm hij)] at e
      exact ⟨C, e, .inr fun _ _ _ _ r => r⟩
  · rw [show ([j].map fun j => vs[j]?) = [some v] by rw [List.map_singleton, evj]]
    exact h2
  · rw [show ([j].map fun j => vs[j]?) = [some v] by rw [List.map_singleton, evj]]
    exact hx
end
end G

set_option maxHeartbeats 4000000
/-! GS: the laws' store of draws: a dict with seven keys. -/
namespace G
open PySem PySem.Spec PyProof.Rows L2
structure Store where
  cells : List Int
  at_ : Int
  rest : Int
  left : Int
  small : Int
  turn : Int
  seed : Int
def ky (x : String) : Key := Sum.inr (Str.ofString x)
def stV (c : Addr) (a r l m t s : V) : List (Key × V) := [(ky "cells", .ref c), (ky "at", a), (ky "rest", r), (ky "left", l), (ky "small", m), (ky "turn", t), (ky "seed", s)]
def stO (c : Addr) (s : Store) : HO := .dK (stV c (.int s.at_) (.int s.rest) (.int s.left) (.int s.small) (.int s.turn) (.int s.seed))
def aStore (s : Store) : As := ⟨fun K F O o => ∃ p c, o = some (.ref p) ∧ O = one p (stO c s) ∧ SqL K F c (s.cells.map V.int), fun e ⟨p, c, h1, h2, h3⟩ => ⟨p, c, h1, h2, seqL_ext e h3⟩⟩
/-- the whole numbers of the store -/
inductive Fl where
  | at_ | rest | left | small | turn | seed
def Fl.key : Fl → String
  | .at_ => "at" | .rest => "rest" | .left => "left" | .small => "small" | .turn => "turn" | .seed => "seed"
def Fl.get : Fl → Store → Int
  | .at_, s => s.at_ | .rest, s => s.rest | .left, s => s.left | .small, s => s.small | .turn, s => s.turn | .seed, s => s.seed
def Fl.set : Fl → Store → Int → Store
  | .at_, s, i => { s with at_ := i } | .rest, s, i => { s with rest := i } | .left, s, i => { s with left := i } | .small, s, i => { s with small := i } | .turn, s, i => { s with turn := i } | .seed, s, i => { s with seed := i }
theorem st_val (f : Fl) (c : Addr) (a r l m t s : Int) : valV (stV c (.int a) (.int r) (.int l) (.int m) (.int t) (.int s)) (ky f.key) = some (.int (f.get ⟨[], a, r, l, m, t, s⟩)) := by
  cases f <;> rfl
theorem st_cells (c : Addr) (a r l m t s : V) : valV (stV c a r l m t s) (ky "cells") = some (.ref c) := rfl
theorem st_put (f : Fl) (c : Addr) (s : Store) (i : Int) : (.dK (putK (stV c (.int s.at_) (.int s.rest) (.int s.left) (.int s.small) (.int s.turn) (.int s.seed)) (ky f.key) (.int i)) : HO) = stO c (f.set s i) := by
  cases f <;> rfl
section
variable {X : Cx} {W : WX} {S S2 α β γ Ω o : Type} {Γ : S → List As} {e : Expr} {rest : List Stmt} {pos p1 p2 : Pos} {P : α → As} {Z : o → Ω → Kd} {Eh : EhT Ω} {π : S → Ω}
theorem aStore_at {B : Ent} {K : PySem.W.Frag} {T L : List As} {ts σ : List (Option V)} {H : Hp} {s : Store} {v : V} {i : Nat} (hl : ts.length = T.length) (h : Hold B K (T ++ L) (ts ++ σ) H) (e : L[i]? = some (aAt v (aStore s))) : σ[i]? = some (some v) ∧ ∃ F p c, Ext F H ∧ v = .ref p ∧ H p = some (stO c s) ∧ SqL K F c (s.cells.map V.int) := by
  obtain ⟨o, F, O, q1, eF, eO, q4, p, c, h1, h2, h3⟩ := h.get (get_app e)
  subst q4
  cases h1
  exact ⟨get_app' hl q1, F, p, c, eF, rfl, eO _ _ (by rw [h2]; exact one_at), h3⟩
/-- store["turn"] -/
theorem ex_stI {x : Str} {v : V} {get : S → Store} (i : Nat) (f : Fl) (hΓ : ∀ s, (Γ s)[i]? = some (aAt v (aStore (get s)))) (hu : X.A.units + 1 < cLine) {j : Nat} (hN : X.N[i]? = some x := by rfl) (hv : Vis X.env.scope x := by first | exact Or.inl rfl | exact Or.inr (Or.inl rfl) | exact Or.inr (Or.inr rfl))
    (hd : (x == ("__debug__" : Str)) = false := by decide) (hcd : (x == ("__classdict__" : Str)) = false := by decide) : Ex X W Γ (.Subscript (.Name x p1) (.Constant (.str (Str.ofString f.key)) j p2) pos) (rd fun s => f.get (get s)) aInt := by
  refine ⟨_, pe_dget hu (pe_var hN hv hd hcd) pe_str (fun _ _ => rfl), fun B T ts σ H Q s hl hh hw => ?_⟩
  obtain ⟨e, F, p, c, eF, rfl, h1, h2⟩ := aStore_at hl hh (hΓ s)
  refine ⟨.ref p, e, p, .int (f.get (get s)), rfl, .inl ⟨_, ky f.key, .inl h1, rfl, ?_⟩, hw _ H (hh.pushV _)⟩
  have := st_val f c (get s).at_ (get s).rest (get s).left (get s).small (get s).turn (get s).seed
  rw [this]
  cases f <;> rfl
/-- store["cells"] -/
theorem ex_stC {x : Str} {v : V} {get : S → Store} (i : Nat) (hΓ : ∀ s, (Γ s)[i]? = some (aAt v (aStore (get s)))) (hu : X.A.units + 1 < cLine) {j : Nat} (hN : X.N[i]? = some x := by rfl) (hv : Vis X.env.scope x := by first | exact Or.inl rfl | exact Or.inr (Or.inl rfl) | exact Or.inr (Or.inr rfl))
    (hd : (x == ("__debug__" : Str)) = false := by decide) (hcd : (x == ("__classdict__" : Str)) = false := by decide) : Ex X W Γ (.Subscript (.Name x p1) (.Constant (.str (Str.ofString "cells")) j p2) pos) (rd fun s => (get s).cells) (aF aInt) := by
  refine ⟨_, pe_dget hu (pe_var hN hv hd hcd) pe_str (fun _ _ => rfl), fun B T ts σ H Q s hl hh hw => ?_⟩
  obtain ⟨F, eF, rd, put, _⟩ := hh.view
  obtain ⟨o, O, q1, eO, q4, p, c, h1, h2, h3⟩ := rd _ _ (get_app (hΓ s))
  subst q4
  cases h1
  refine ⟨.ref p, get_app' hl q1, p, .ref c, rfl, .inl ⟨_, ky "cells", .inl (eO _ _ (by rw [h2]; exact one_at)), rfl, rfl⟩, hw _ H (put _ _ ⟨rfl, c, _, rfl, h3, ?_⟩)⟩
  have all : ∀ l : List Int, AllR X.K F (l.map aInt) (l.map V.int) := fun l => by
    induction l with
    | nil => exact .nil
    | cons x l ih => exact .cons ⟨rfl, rfl⟩ ih
  exact all _
/-- store["turn"] = e -/
theorem bl_stP {x : Str} {v : V} {get : S → Store} {me : M S Int} {mk : Int → S → S} {k : Int → S → Rs Ω o} (i : Nat) (f : Fl) (he : Ex X W Γ e me aInt) (hEh : EhOk X Γ π Eh) (hk : ∀ a, Bl X W Γ rest (k a) Z Eh) (hΓ : ∀ s, (Γ s)[i]? = some (aAt v (aStore (get s)))) (hmk : ∀ a s, (Γ s).set i (aAt v (aStore (f.set (get s) a))) = Γ (mk a s)) (hu : X.A.units + 1 < cLine) {j : Nat} (hN : X.N[i]? = some x := by rfl) (hv : Vis X.env.scope x := by first | exact Or.inl rfl | exact Or.inr (Or.inl rfl) | exact Or.inr (Or.inr rfl))
    (hd : (x == ("__debug__" : Str)) = false := by decide) (hcd : (x == ("__classdict__" : Str)) = false := by decide) {p3 : Pos} (hs : swapsWith e (some (.Subscript (.Name x p1) (.Constant (.str (Str.ofString f.key)) j p2) p3)) pos.line X.env = pure false := by rfl) : Bl X W Γ (.Assign [.Subscript (.Name x p1) (.Constant (.str (Str.ofString f.key)) j p2) p3] e pos :: rest) (bdo π me mk k) Z Eh := by
  obtain ⟨t, ht, hr⟩ := he
  refine ⟨_, pss_cons (ps_dput hu (pe_var hN hv hd hcd) pe_str ht hs) pss_any, fun B T ts σ H D s hl hh hw => ?_⟩
  rw [bdo_wp] at hw
  refine hr B T ts σ H _ s hl hh (hw.mono (fun a s1 q w H1 h1 => ?_) fun x s1 q C d H' hx => q C d σ H' (hEh s1 x B T ts σ C d H' hl hx))
  have hw0 := h1.v0
  cases hw0
  have h2 := h1.pop
  obtain ⟨e1, F, p, c, eF, rfl, h3, h4⟩ := aStore_at hl h2 (hΓ s1)
  refine ⟨.ref p, e1, p, _, rfl, .inl ⟨_, ky f.key, h3, rfl, ?_, rfl⟩, ?_⟩
  · show 7 < sizeLine
    rw [sizeLine_eq]; decide
  · rw [st_put]
    have h5 := h2.write (i := T.length + i) (p := p) (o' := stO c (f.set (get s1) a)) (A' := aAt (.ref p) (aStore (f.set (get s1) a))) (get_app (hΓ s1)) fun F' O u z1 z2 z3 ⟨z4, p', c', z5, z6, z7⟩ _ => by
      subst z4
      cases z5
      have ec : c' = c := by
        have a1 : H1 p = some (stO c' (get s1)) := z3 _ _ (by rw [z6]; exact one_at)
        rw [a1] at h3
        have h6 := Option.some.inj h3
        unfold stO stV at h6
        injection h6 with h6
        simp at h6
        exact h6
      subst ec
      refine ⟨⟨_, by rw [z6]; exact one_at⟩, rfl, p, c', rfl, by rw [z6]; exact upd_upd, ?_⟩
      cases f <;> exact z7
    rw [set_app, hmk] at h5
    exact (hk a).any B T ts σ _ D _ hl h5 q
end
end G

set_option maxHeartbeats 4000000
/-! GB: lists of one's own read and changed where they stand; more built-ins. -/
namespace G
open PySem PySem.Spec PyProof.Rows L2
open SX (S_len S_cat)
/-- a run told by the state -/
def ms {S α : Type} (f : S → Rs S α) : M S α := f
section
variable {X : Cx} {W : WX} {S S2 α β γ Ω o : Type} {Γ : S → List As} {e : Expr} {rest : List Stmt} {pos p1 p2 : Pos} {P : α → As} {Z : o → Ω → Kd} {Eh : EhT Ω} {π : S → Ω}
theorem own_at {B : Ent} {K : PySem.W.Frag} {T L : List As} {ts σ : List (Option V)} {H : Hp} {Ls : List As} {v : V} {i : Nat} (hl : ts.length = T.length) (h : Hold B K (T ++ L) (ts ++ σ) H) (e : L[i]? = some (aAt v (aLs Ls))) :
    σ[i]? = some (some v) ∧ ∃ F p ws, Ext F H ∧ v = .ref p ∧ H p = some (.lst ws) ∧ AllR K F Ls ws ∧ (∀ A o, A.rep K F emp o → Hold B K (A :: (T ++ L)) (o :: (ts ++ σ)) H) ∧
      (∀ p o A v, H p = none → A.rep K (upd F p o) emp (some v) → Hold B K (A :: (T ++ L)) (some v :: (ts ++ σ)) (upd H p o)) ∧
      (∀ p o A v, H p = none → A.rep K F (one p o) (some v) → Hold B K (A :: (T ++ L)) (some v :: (ts ++ σ)) (upd H p o)) := by
  obtain ⟨F, eF, rd, put, new, own⟩ := h.view
  obtain ⟨o, O, q1, eO, q4, p, ws, h1, h2, h3⟩ := rd _ _ (get_app e)
  subst q4
  cases h1
  exact ⟨get_app' hl q1, F, p, ws, eF, rfl, eO _ _ (by rw [h2]; exact one_at), h3, put, new, own⟩
section
variable {x : Str} {v : V} {get : S → List α} (i : Nat)
/-- len(x) -/
theorem ex_lenB {px : Pos} (hΓ : ∀ s, (Γ s)[i]? = some (aAt v (aL P (get s)))) (hm : X.mg "len" = none) (hN : X.N[i]? = some x := by rfl) (hv : Vis X.env.scope x := by first | exact Or.inl rfl | exact Or.inr (Or.inl rfl) | exact Or.inr (Or.inr rfl)) (hg : Gl X "len" := by rfl)
    (hd : (x == ("__debug__" : Str)) = false := by decide) (hcd : (x == ("__classdict__" : Str)) = false := by decide) (he : starEach [Expr.Name x px] X.env = (false, eval (.Name x px) X.env) :: starEach [] X.env := by rfl) : Ex X W Γ (.Call (.Name "len" p1) [.Name x px] [] pos) (rd fun s => ((get s).length : Int)) aInt := by
  refine ⟨_, pe_callB call_len_seq hg hm PySem.boot_len (pa_cons (pe_var hN hv hd hcd) pa_nil he) (he := he), fun B T ts σ H Q s hl hh hw => ?_⟩
  obtain ⟨e, F, p, ws, eF, rfl, h1, h2, put, _⟩ := own_at hl hh (hΓ s)
  have hlen := h2.len
  rw [List.length_map] at hlen
  exact ⟨.ref p, e, p, ws, rfl, .inl (.inl (.inl h1)), by rw [← hlen]; exact hw _ H (hh.pushV _)⟩
/-- x[e] -/
theorem ex_ixB {px : Pos} {me : M S Int} (hΓ : ∀ s, (Γ s)[i]? = some (aAt v (aL P (get s)))) (he : Ex X W Γ e me aInt) (hN : X.N[i]? = some x := by rfl) (hv : Vis X.env.scope x := by first | exact Or.inl rfl | exact Or.inr (Or.inl rfl) | exact Or.inr (Or.inr rfl))
    (hd : (x == ("__debug__" : Str)) = false := by decide) (hcd : (x == ("__classdict__" : Str)) = false := by decide) (hs : PlainIx e := by exact fun _ _ => rfl) : Ex X W Γ (.Subscript (.Name x px) e pos) (me >>= fun j => ms fun s => lf (atI (get s) j) s) P := by
  obtain ⟨t, ht, hr⟩ := he
  refine ⟨_, pe_ix ix_list (pe_var hN hv hd hcd) ht hs, fun B T ts σ H Q s hl hh hw => ?_⟩
  obtain ⟨e0, _⟩ := own_at hl hh (hΓ s)
  refine ⟨v, e0, ?_⟩
  rw [bind_wp] at hw
  refine hr B T ts σ H _ s hl hh (hw.mono (fun j s1 q w H1 h1 => ?_) fun _ _ q => q)
  have hw0 := h1.v0
  cases hw0
  obtain ⟨c, e1, q⟩ := lf_wp.mp q
  obtain ⟨e2, F, p, ws, eF, rfl, h2, h3, put, _⟩ := own_at hl h1.pop (hΓ s1)
  have hlen := h3.len
  rw [List.length_map] at hlen
  have e1 : (ixN (get s1).length j).bind (fun k => (get s1)[k]?) = some c := e1
  cases zz : ixN (get s1).length j with
  | none => rw [zz] at e1; cases e1
  | some n =>
    rw [zz] at e1
    have e1 : (get s1)[n]? = some c := e1
    obtain ⟨w, w1, w2⟩ := h3.get e1
    exact ⟨p, ws, j, w, rfl, rfl, .inl (.inl h2), by show (ixN ws.length j).bind _ = _; rw [← hlen, zz]; exact w1, q w H1 (put _ _ w2)⟩
/-- tuple(x) -/
theorem ex_tupleB {px : Pos} (hΓ : ∀ s, (Γ s)[i]? = some (aAt v (aL P (get s)))) (hm : X.mg "tuple" = none) (hN : X.N[i]? = some x := by rfl) (hv : Vis X.env.scope x := by first | exact Or.inl rfl | exact Or.inr (Or.inl rfl) | exact Or.inr (Or.inr rfl)) (hg : Gl X "tuple" := by rfl)
    (hd : (x == ("__debug__" : Str)) = false := by decide) (hcd : (x == ("__classdict__" : Str)) = false := by decide) (he : starEach [Expr.Name x px] X.env = (false, eval (.Name x px) X.env) :: starEach [] X.env := by rfl) : Ex X W Γ (.Call (.Name "tuple" p1) [.Name x px] [] pos) (rd fun s => get s) (aT P) := by
  refine ⟨_, pe_callTy call_tuple_of hg hm (by decide +kernel) (pa_cons (pe_var hN hv hd hcd) pa_nil he) (he := he), fun B T ts σ H Q s hl hh hw => ?_⟩
  obtain ⟨e, F, p, ws, eF, rfl, h1, h2, put, new, _⟩ := own_at hl hh (hΓ s)
  refine ⟨.ref p, e, p, ws, rfl, .inl ⟨.inl (.inl h1), fun l nl => hw _ _ (new l _ _ (.ref l) nl ⟨rfl, l, ws, rfl, .inl (.inl upd_same), AllR.ext (ext_upd (eF.none nl)) h2⟩)⟩⟩
/-- list(x) -/
theorem ex_listB {px : Pos} (hΓ : ∀ s, (Γ s)[i]? = some (aAt v (aL P (get s)))) (hm : X.mg "list" = none) (hN : X.N[i]? = some x := by rfl) (hv : Vis X.env.scope x := by first | exact Or.inl rfl | exact Or.inr (Or.inl rfl) | exact Or.inr (Or.inr rfl)) (hg : Gl X "list" := by rfl)
    (hd : (x == ("__debug__" : Str)) = false := by decide) (hcd : (x == ("__classdict__" : Str)) = false := by decide) (he : starEach [Expr.Name x px] X.env = (false, eval (.Name x px) X.env) :: starEach [] X.env := by rfl) : Ex X W Γ (.Call (.Name "list" p1) [.Name x px] [] pos) (rd fun s => get s) (aL P) := by
  refine ⟨_, pe_callTy call_list_of hg hm (by decide +kernel) (pa_cons (pe_var hN hv hd hcd) pa_nil he) (he := he), fun B T ts σ H Q s hl hh hw => ?_⟩
  obtain ⟨e, F, p, ws, eF, rfl, h1, h2, put, new, own⟩ := own_at hl hh (hΓ s)
  exact ⟨.ref p, e, p, ws, rfl, .inl (.inl (.inl h1)), fun l nl => hw _ _ (own l _ _ (.ref l) nl ⟨l, ws, rfl, rfl, h2⟩)⟩
/-- x[a:b] -/
theorem ex_sliceB {px : Pos} {lo hi : Option Expr} {ml mh : M S (Option Int)} (hΓ : ∀ s, (Γ s)[i]? = some (aAt v (aL P (get s)))) (hlo : Eo X W Γ lo ml) (hhi : Eo X W Γ hi mh) (hN : X.N[i]? = some x := by rfl) (hv : Vis X.env.scope x := by first | exact Or.inl rfl | exact Or.inr (Or.inl rfl) | exact Or.inr (Or.inr rfl))
    (hd : (x == ("__debug__" : Str)) = false := by decide) (hcd : (x == ("__classdict__" : Str)) = false := by decide) : Ex X W Γ (.Subscript (.Name x px) (.Slice lo hi none p2) pos) (ml >>= fun a => mh >>= fun b => rd fun s => ((get s).drop (HT.sIx (get s).length 0 a)).take (HT.sIx (get s).length (get s).length b - HT.sIx (get s).length 0 a)) (aL P) := by
  obtain ⟨tl, pl, rl⟩ := hlo
  obtain ⟨th, ph, rh⟩ := hhi
  refine ⟨_, pe_slice sl_list (pe_var hN hv hd hcd) pl ph, fun B T ts σ H Q s hl hh hw => ?_⟩
  obtain ⟨e0, _⟩ := own_at hl hh (hΓ s)
  refine ⟨v, e0, ?_⟩
  rw [bind_wp] at hw
  refine rl B T ts σ H _ s hl hh (hw.mono (fun a s1 q H1 h1 => ?_) fun _ _ q => q)
  rw [bind_wp] at q
  refine rh B T ts σ H1 _ s1 hl h1 (q.mono (fun b s2 q2 H2 h2 => ?_) fun _ _ q => q)
  obtain ⟨e, F, p, ws, eF, rfl, h3, h4, put, new, own⟩ := own_at hl h2 (hΓ s2)
  refine ⟨p, ws, rfl, .inl (.inl h3), fun l nl => q2 _ _ (own l _ _ (.ref l) nl ⟨l, _, rfl, rfl, ?_⟩)⟩
  have hlen := h4.len
  rw [List.length_map] at hlen
  have cut : ∀ {L : List As} {ws : List V}, AllR X.K F L ws → ∀ n k, AllR X.K F ((L.drop n).take k) ((ws.drop n).take k) := by
    have tk : ∀ {L : List As} {ws : List V}, AllR X.K F L ws → ∀ k, AllR X.K F (L.take k) (ws.take k) := by
      intro L ws r
      induction r with
      | nil => intro k; simp; exact .nil
      | cons r _ ih =>
        intro k
        cases k with
        | zero => exact .nil
        | succ k => exact .cons r (ih k)
    have dr : ∀ {L : List As} {ws : List V}, AllR X.K F L ws → ∀ k, AllR X.K F (L.drop k) (ws.drop k) := by
      intro L ws r
      induction r with
      | nil => intro k; simp; exact .nil
      | cons r t ih =>
        intro k
        cases k with
        | zero => exact .cons r t
        | succ k => exact ih k
    exact fun {L ws} r n k => tk (dr r n) k
  rw [List.map_take, List.map_drop]
  unfold cutV
  rw [← hlen]
  exact cut h4 _ _
/-- x.append(e) -/
theorem bl_append {px ap : Pos} {me : M S α} {mk : α → S → S2} {Γ2 : α → S2 → List As} {k : α → S2 → Rs Ω o} (hΓ : ∀ s, (Γ s)[i]? = some (aAt v (aL P (get s)))) (he : Ex X W Γ e me P) (hEh : EhOk X Γ π Eh) (hp : ∀ y, Pers (P y)) (hk : ∀ a, Bl X W (Γ2 a) rest (k a) Z Eh) (hmk : ∀ a s, (Γ s).set i (aAt v (aL P (get s ++ [a]))) = Γ2 a (mk a s))
    (hN : X.N[i]? = some x := by rfl) (hv : Vis X.env.scope x := by first | exact Or.inl rfl | exact Or.inr (Or.inl rfl) | exact Or.inr (Or.inr rfl))
    (hd : (x == ("__debug__" : Str)) = false := by decide) (hcd : (x == ("__classdict__" : Str)) = false := by decide)
    (hbase : attributeBase (.Name x px) "append" X.env (eval (.Name x px) X.env) = eval (.Name x px) X.env := by rfl)
    (hfew : ((backTo p1 (starEach [e] X.env)).all (fun x => !x.1) && (backToKw p1 (keywordEach [] X.env)).all (fun x => x.1.isSome)
      && decide ([e].length + ([] : List Keyword).length + (if ([] : List Keyword).isEmpty then 0 else 1) < 30)) = true := by rfl)
    (hline : (ap.endLine == p1.line) = true := by rfl) (hs : starEach [e] X.env = (false, eval e X.env) :: starEach [] X.env := by rfl) (hplain : (backTo p1 (starEach [] X.env)).any (·.1) = false := by rfl) (hsw : swapsWith (.Call (.Attribute (.Name x px) "append" ap) [e] [] p1) none pos.line X.env = pure false := by rfl) :
    Bl X W Γ (.Expr (.Call (.Attribute (.Name x px) "append" ap) [e] [] p1) pos :: rest) (bdo π (me >>= fun a => ms fun s => if (get s).length < SZ then .ok a s else .st) mk k) Z Eh := by
  obtain ⟨t, ht, hr⟩ := he
  refine ⟨_, pss_cons (ps_expr (pe_bm PySem.F.plainAttrs_list PySem.F.slot_list_append PySem.F.type_list_append mt_append (pe_var hN hv hd hcd) (pa_cons ht pa_nil hs) hbase hfew hline hs hplain) hsw) pss_any, fun B T ts σ H D s hl hh hw => ?_⟩
  rw [bdo_wp, bind_wp] at hw
  obtain ⟨e0, F, p, ws, eF, rfl, h3, h4, _⟩ := own_at hl hh (hΓ s)
  refine ⟨.ref p, e0, .inl ⟨rfl, ws, .inl (.inl h3)⟩, ?_⟩
  refine hr B T ts σ H _ s hl hh (hw.mono (fun a s1 q w H1 h1 => ?_) fun x s1 q C d H' hx => q C d σ H' (hEh s1 x B T ts σ C d H' hl hx))
  have h1' : Hold B X.K ((P a :: T) ++ Γ s1) ((some w :: ts) ++ σ) H1 := h1
  obtain ⟨e1, F1, p1, ws1, eF1, ep, h5, h6, _⟩ := own_at (by simp [hl]) h1' (hΓ s1)
  cases ep
  have hlen := h6.len
  rw [List.length_map] at hlen
  by_cases hz : (get s1).length < SZ
  · have q := (show Rs.wp (if (get s1).length < SZ then Rs.ok a s1 else Rs.st) _ _ from q)
    rw [if_pos hz] at q
    refine ⟨p, ws1, w, rfl, rfl, h5, by rw [SZ_eq]; omega, ?_⟩
    have h7 := h1'.write (i := (P a :: T).length + i) (p := p) (o' := .lst (ws1 ++ [w])) (A' := aAt (.ref p) (aL P (get s1 ++ [a]))) (get_app (hΓ s1)) fun F' O u z1 z2 z3 ⟨z4, p', ws', z5, z6, z7⟩ rd => by
      subst z4
      cases z5
      have ew : ws' = ws1 := by
        have a1 : H1 p = some (.lst ws') := z3 _ _ (by rw [z6]; exact one_at)
        rw [a1] at h5
        cases h5
        rfl
      subst ew
      obtain ⟨u0, O0, y1, _, y2⟩ := rd 0 (P a) rfl
      cases y1
      have y3 := (hp a).eO y2
      subst y3
      refine ⟨⟨_, by rw [z6]; exact one_at⟩, rfl, p, ws' ++ [w], rfl, by rw [z6]; exact upd_upd, ?_⟩
      rw [List.map_append]
      exact allR_app z7 (.cons y2 .nil)
    rw [set_app, hmk] at h7
    exact (hk a).any B T ts σ _ D _ hl (show Hold B X.K (P a :: (T ++ Γ2 a (mk a s1))) (some w :: (ts ++ σ)) _ from h7).pop q
  · have q := (show Rs.wp (if (get s1).length < SZ then Rs.ok a s1 else Rs.st) _ _ from q)
    rw [if_neg hz] at q
    exact q.elim
end
end
end G

set_option maxHeartbeats 4000000
/-! GC: more built-ins over typed values. -/
namespace G
open PySem PySem.Spec PyProof.Rows L2
open SX (S_len S_cat)
section
variable {X : Cx} {W : WX} {S S2 α β γ Ω o : Type} {Γ : S → List As} {K : PySem.W.Frag}
/-- int(n) -/
theorem b_int : Bl1 (fun xs H Q => (∃ i, xs = [.int i] ∧ Q (.int i) H) ∨ ∃ k, xs = [.bl k] ∧ Q (.int (if k then 1 else 0)) H) K (fun z : Int × Unit => [aInt z.1]) (fun z => some z.1) aInt := by
  intro B L ls H x vs c Q hn h e q
  match vs, hn with
  | [v], _ =>
    have h1 : some v = some (V.int x.1) := h.v0
    cases h1
    cases e
    exact .inl ⟨x.1, rfl, q _ H (h.pop.pushV _)⟩
/-- abs(n) -/
theorem b_abs : Bl1 (fun xs H Q => ∃ i, xs = [.int i] ∧ Q (.int (if i < 0 then -i else i)) H) K (fun z : Int × Unit => [aInt z.1]) (fun z => some (if z.1 < 0 then -z.1 else z.1)) aInt := by
  intro B L ls H x vs c Q hn h e q
  match vs, hn with
  | [v], _ =>
    have h1 : some v = some (V.int x.1) := h.v0
    cases h1
    cases e
    exact ⟨x.1, rfl, q _ H (h.pop.pushV _)⟩
/-- max(a, b), min(a, b) -/
theorem b_max : Bl1 (fun xs H Q => ∃ i j, xs = [.int i, .int j] ∧ Q (.int (if j > i then j else i)) H) K (fun z : Int × (Int × Unit) => [aInt z.1, aInt z.2.1]) (fun z => some (if z.2.1 > z.1 then z.2.1 else z.1)) aInt := by
  intro B L ls H x vs c Q hn h e q
  match vs, hn with
  | [v, w], _ =>
    have h1 : some v = some (V.int x.1) := h.v0
    have h2 : some w = some (V.int x.2.1) := h.pop.v0
    cases h1; cases h2; cases e
    exact ⟨x.1, x.2.1, rfl, q _ H (h.pop.pop.pushV _)⟩
theorem b_min : Bl1 (fun xs H Q => ∃ i j, xs = [.int i, .int j] ∧ Q (.int (if j < i then j else i)) H) K (fun z : Int × (Int × Unit) => [aInt z.1, aInt z.2.1]) (fun z => some (if z.2.1 < z.1 then z.2.1 else z.1)) aInt := by
  intro B L ls H x vs c Q hn h e q
  match vs, hn with
  | [v, w], _ =>
    have h1 : some v = some (V.int x.1) := h.v0
    have h2 : some w = some (V.int x.2.1) := h.pop.v0
    cases h1; cases h2; cases e
    exact ⟨x.1, x.2.1, rfl, q _ H (h.pop.pop.pushV _)⟩
/-- str(n) -/
def numT (i : Int) : Tx := tx (Str.ofString (toString i))
def strI (i : Int) : Option Tx := if i.natAbs.log2 < 1920 then some (numT i) else none
theorem b_strI : Bl1 (fun xs H Q => ∃ i : Int, xs = [.int i] ∧ i.natAbs.log2 < 1920 ∧ Q (.str (toString i)) H) K (fun z : Int × Unit => [aInt z.1]) (fun z => strI z.1) aStr := by
  intro B L ls H x vs c Q hn h e q
  match vs, hn with
  | [v], _ =>
    have h1 : some v = some (V.int x.1) := h.v0
    cases h1
    have e : (if x.1.natAbs.log2 < 1920 then some (numT x.1) else none) = some c := e
    split at e
    · rename_i hl
      cases e
      refine ⟨x.1, rfl, hl, ?_⟩
      have := q (.str (sx (numT x.1))) H (h.pop.pushV _)
      unfold numT at this
      rw [sx_tx] at this
      exact this
    · cases e
/-- all(xs), any(xs) of truth values -/
theorem allR_bl {F : Hp} : ∀ {bs : List Bool} {vs : List V}, AllR K F (bs.map aBl) vs → vs = bs.map V.bl
  | [], _, .nil => rfl
  | b :: bs, _, .cons r t => by
    have := r.1
    cases this
    rw [allR_bl t]
    rfl
theorem allR_int {F : Hp} : ∀ {bs : List Int} {vs : List V}, AllR K F (bs.map aInt) vs → vs = bs.map V.int
  | [], _, .nil => rfl
  | b :: bs, _, .cons r t => by
    have := r.1
    cases this
    rw [allR_int t]
    rfl
theorem allR_str {F : Hp} : ∀ {bs : List Tx} {vs : List V}, AllR K F (bs.map aStr) vs → vs = (bs.map sx).map V.str
  | [], _, .nil => rfl
  | b :: bs, _, .cons r t => by
    have := r.1
    cases this
    rw [allR_str t]
    rfl
theorem b_all : Bl1 (rAll K) K (fun z : List Bool × Unit => [aL aBl z.1]) (fun z => some (z.1.all id)) aBl := by
  intro B L ls H x vs c Q hn h e q
  match vs, hn with
  | [v], _ =>
    cases e
    obtain ⟨F, O, eF, eO, p, ws, h1, h2, h3⟩ := Hold.get0 (L := L) h
    cases h1
    have := allR_bl h3
    subst this
    exact ⟨p, x.1, rfl, .inl (.inl (eO _ _ (by rw [h2]; exact one_at))), q _ H (h.pop.pushV _)⟩
theorem b_any : Bl1 (rAny K) K (fun z : List Bool × Unit => [aL aBl z.1]) (fun z => some (z.1.any id)) aBl := by
  intro B L ls H x vs c Q hn h e q
  match vs, hn with
  | [v], _ =>
    cases e
    obtain ⟨F, O, eF, eO, p, ws, h1, h2, h3⟩ := Hold.get0 (L := L) h
    cases h1
    have := allR_bl h3
    subst this
    exact ⟨p, x.1, rfl, .inl (.inl (eO _ _ (by rw [h2]; exact one_at))), q _ H (h.pop.pushV _)⟩
/-- sum(xs) of whole numbers -/
theorem b_sum : Bl1 (rSum K) K (fun z : List Int × Unit => [aL aInt z.1]) (fun z => some z.1.sum) aInt := by
  intro B L ls H x vs c Q hn h e q
  match vs, hn with
  | [v], _ =>
    cases e
    obtain ⟨F, O, eF, eO, p, ws, h1, h2, h3⟩ := Hold.get0 (L := L) h
    cases h1
    have := allR_int h3
    subst this
    exact ⟨p, x.1, rfl, .inl (.inl (eO _ _ (by rw [h2]; exact one_at))), q _ H (h.pop.pushV _)⟩
/-- list(xs), tuple(xs) -/
theorem b_list {P : β → As} {Pa : List β → As} (hs : ∀ x, Sq (Pa x) (x.map P)) : Bl1 (fun xs H Q => ∃ p ys, xs = [.ref p] ∧ (SqL K H p ys ∨ SqT K H p ys) ∧ ∀ l, H l = none → Q (.ref l) (upd H l (.lst ys))) K (fun z : List β × Unit => [Pa z.1]) (fun z => some z.1) (aL P) := by
  intro B L ls H x vs c Q hn h e q
  match vs, hn with
  | [v], _ =>
    cases e
    have h : Hold B K (Pa x.1 :: L) (some v :: ls) H := h
    obtain ⟨F, eF, rd, put, new, own⟩ := h.view
    obtain ⟨o, O, q1, eO, q2⟩ := rd 0 _ rfl
    cases q1
    obtain ⟨a, ws, e1, e2, e3⟩ := (hs x.1).rd q2 eF eO
    cases e1
    exact ⟨a, ws, rfl, e2, fun l nl => q _ _ (own l (.lst ws) (aL P x.1) (.ref l) nl ⟨l, ws, rfl, rfl, e3⟩).drop1⟩
theorem b_tupL {P : β → As} {Pa : List β → As} (hs : ∀ xs, ∀ {F O o H}, (Pa xs).rep K F O o → Ext F H → Ext O H → ∃ a vs, o = some (.ref a) ∧ SqL K H a vs ∧ AllR K F (xs.map P) vs) : Bl1 (fun xs H Q => ∃ p ys, xs = [.ref p] ∧ ((SqL K H p ys ∧ ∀ l, H l = none → Q (.ref l) (upd H l (.tup ys))) ∨ (SqT K H p ys ∧ Q (.ref p) H))) K (fun z : List β × Unit => [Pa z.1]) (fun z => some z.1) (aT P) := by
  intro B L ls H x vs c Q hn h e q
  match vs, hn with
  | [v], _ =>
    cases e
    have h : Hold B K (Pa x.1 :: L) (some v :: ls) H := h
    obtain ⟨F, eF, rd, put, new, own⟩ := h.view
    obtain ⟨o, O, q1, eO, q2⟩ := rd 0 _ rfl
    cases q1
    obtain ⟨a, ws, e1, e2, e3⟩ := hs x.1 q2 eF eO
    cases e1
    exact ⟨a, ws, rfl, .inl ⟨e2, fun l nl => q _ _ (new l (.tup ws) (aT P x.1) (.ref l) nl ⟨rfl, l, ws, rfl, .inl (.inl upd_same), AllR.ext (ext_upd (eF.none nl)) e3⟩).drop1⟩⟩
theorem rd_own {P : β → As} : ∀ xs : List β, ∀ {F O o H}, (aL P xs).rep K F O o → Ext F H → Ext O H → ∃ a vs, o = some (.ref a) ∧ SqL K H a vs ∧ AllR K F (xs.map P) vs := fun xs F O o H ⟨p, vs, h1, h2, h3⟩ _ eO => ⟨p, vs, h1, .inl (.inl (eO _ _ (by rw [h2]; exact one_at))), h3⟩
theorem rd_frz {P : β → As} : ∀ xs : List β, ∀ {F O o H}, (aF P xs).rep K F O o → Ext F H → Ext O H → ∃ a vs, o = some (.ref a) ∧ SqL K H a vs ∧ AllR K F (xs.map P) vs := fun xs F O o H ⟨_, p, vs, h1, h2, h3⟩ eF _ => ⟨p, vs, h1, seqL_ext eF h2, h3⟩
/-- tuple(t) of a tuple -/
theorem b_tupT {P : β → As} : Bl1 (fun xs H Q => ∃ p ys, xs = [.ref p] ∧ ((SqL K H p ys ∧ ∀ l, H l = none → Q (.ref l) (upd H l (.tup ys))) ∨ (SqT K H p ys ∧ Q (.ref p) H))) K (fun z : List β × Unit => [aT P z.1]) (fun z => some z.1) (aT P) := by
  intro B L ls H x vs c Q hn h e q
  match vs, hn with
  | [v], _ =>
    cases e
    have h : Hold B K (aT P x.1 :: L) (some v :: ls) H := h
    obtain ⟨F, eF, rd, put, new, own⟩ := h.view
    obtain ⟨o, O, q1, eO, _, a, ws, e1, e2, e3⟩ := rd 0 _ rfl
    cases q1
    cases e1
    exact ⟨a, ws, rfl, .inr ⟨seqT_ext eF e2, q _ _ h⟩⟩
/-- list(t) of a text: its signs -/
def rListT : List V → Hp → VK → Prop := fun xs H Q => ∃ a : Tx, xs = [.str (sx a)] ∧ a.length ≤ SZ ∧ ∀ l, H l = none → Q (.ref l) (upd H l (.lst (a.map fun c => V.str (sx [c]))))
theorem call_listT (hc : X.calm = true) : CallR X (.type "list") rListT := by
  intro pins s σ H xs us Q I r h
  obtain ⟨a, rfl, hz, q⟩ := h
  obtain ⟨u, rfl, t, rfl⟩ := vals1 r
  have hsz : (sx a).cps.size ≤ sizeLine := by rw [SZ_eq]; simpa using hz
  refine PySem.call_list_str (I.ok.hd hc) (sx a) t (fun h' tk acc' c' kp e it => ?_) hsz
  obtain ⟨hl, hi⟩ := it
  have len : acc'.toList.length = a.length := by rw [Array.length_toList, hl]; simp
  have rel : ∀ (a : Tx) (us : List Value), us.length = a.length → (∀ (j : Nat) (u : Value), us[j]? = some u → ∃ c t, a[j]? = some c ∧ u = Value.str ⟨#[c]⟩ t) → Vals (a.map fun c => V.str (sx [c])) us := by
    intro a
    induction a with
    | nil => intro us hl _; cases us with
      | nil => exact .nil
      | cons u us => simp at hl
    | cons c a ih => intro us hl k; cases us with
      | nil => simp at hl
      | cons u us =>
        obtain ⟨d, t, e1, e2⟩ := k 0 u rfl
        have e1 : c = d := Option.some.inj e1
        subst e1
        exact .cons ⟨t, e2⟩ (ih us (by simpa using hl) fun j u e => by simpa using k (j + 1) u (by simpa using e))
  have vals : Vals (a.map fun c => V.str (sx [c])) acc'.toList := rel a _ len fun j u e => by
    obtain ⟨c, t, e1, e2⟩ := hi j u (by simpa using e)
    exact ⟨c, t, by simpa using e1, e2⟩
  refine ⟨.ref s.heap.objs.size, _, I.laid (t' := tk) kp (Nat.le_refl _) (show ObjOk X.prog X.w _ h' _ (.lst _) from ⟨by rw [SZ_eq]; simpa using hz, acc'.toList, c', vals, by simpa using e⟩), rfl, q _ (I.hok.fresh (Nat.le_refl _))⟩
theorem b_listT : Bl1 rListT K (fun z : Tx × Unit => [aStr z.1]) (fun z => if z.1.length ≤ SZ then some (z.1.map fun c => [c]) else none) (aL aStr) := by
  intro B L ls H x vs c Q hn h e q
  match vs, hn with
  | [v], _ =>
    have h1 : some v = some (V.str (sx x.1)) := h.v0
    cases h1
    have e : (if x.1.length ≤ SZ then some (x.1.map fun c => [c]) else none) = some c := e
    split at e
    · rename_i hz
      cases e
      refine ⟨x.1, rfl, hz, fun l nl => q _ _ (h.pop.own nl fun F eF _ => ⟨l, _, rfl, rfl, ?_⟩)⟩
      have : ∀ a : Tx, AllR K F ((a.map fun c => [c]).map aStr) (a.map fun c => V.str (sx [c])) := fun a => by
        induction a with
        | nil => exact .nil
        | cons c a ih => exact .cons ⟨rfl, rfl⟩ ih
      exact this _
    · cases e
/-- sep.join(xs) -/
def joinT (a : Tx) (ys : List Tx) : Option Tx := if (ys.map List.length).sum + ys.length * a.length ≤ SZ then some (TL.joinL a ys) else none
def rJoin (K : PySem.W.Frag) : V → List V → Hp → VK → Prop := fun x xs H Q => ∃ a p, ∃ ys : List Str, x = .str a ∧ xs = [.ref p] ∧ (SqL K H p (ys.map V.str) ∨ SqT K H p (ys.map V.str)) ∧ (ys.map (·.length)).sum + ys.length * a.length ≤ 16777216 ∧ Q (.str (Txt.join a ys)) H
theorem m_join {Pa : List Tx → As} (hs : ∀ x, Sq (Pa x) (x.map aStr)) : Mt1 (rJoin K) K "str" aStr (fun z : List Tx × Unit => [Pa z.1]) (fun a z => joinT a z.1) aStr := by
  intro B L ls H x y v vs c Q hn h e q
  match vs, hn with
  | [w], _ =>
    have h : Hold B K (Pa y.1 :: aStr x :: L) (some w :: some v :: ls) H := h
    have h1 : some v = some (V.str (sx x)) := h.pop.v0
    cases h1
    obtain ⟨F, O, eF, eO, r⟩ := h.get0
    obtain ⟨a, ws, e1, e2, e3⟩ := (hs y.1).rd r eF eO
    cases e1
    have := allR_str e3
    subst this
    have e : (if (y.1.map List.length).sum + y.1.length * x.length ≤ SZ then some (TL.joinL x y.1) else none) = some c := e
    split at e
    · rename_i hz
      cases e
      refine ⟨sx x, a, y.1.map sx, rfl, rfl, e2, ?_, ?_⟩
      · rw [List.length_map, S_len]
        have : (y.1.map sx).map (·.length) = y.1.map List.length := SX.lens y.1
        rw [this]
        exact hz
      · have e4 : Txt.join (sx x) (y.1.map sx) = sx (TL.joinL x y.1) := SX.join_S x y.1
        rw [e4]
        exact q _ H (h.pop.pop.pushV _)
    · cases e
theorem ty_str {x : Tx} : Ty1 K "str" (aStr x) := by
  intro B L ls H v h
  have h1 := h.v0
  cases h1
  exact rfl
theorem ty_list {L : List As} : Ty1 K "list" (aLs L) := by
  intro B L' ls H v h
  obtain ⟨F, O, eF, eO, p, ws, h1, h2, h3⟩ := h.get0
  cases h1
  exact .inl ⟨rfl, ws, .inl (.inl (eO _ _ (by rw [h2]; exact one_at)))⟩
/-- s.split(sep) -/
def splitT (a b : Tx) : Option (List Tx) := if b ≠ [] ∧ b.all (· < 256) = true ∧ a.length + 2 ≤ SZ then some (TL.spl b 0 [] a) else none
theorem m_split : Mt1 (fun x xs H Q => ∃ a b, x = .str a ∧ xs = [.str b] ∧ (b.length == 0) = false ∧ a.length + 2 ≤ sizeLine ∧ rNewStrs (Txt.split a b) H Q) K "str" aStr (fun z : Tx × Unit => [aStr z.1]) (fun a z => splitT a z.1) (aL aStr) := by
  intro B L ls H x y v vs c Q hn h e q
  match vs, hn with
  | [w], _ =>
    have h : Hold B K (aStr y.1 :: aStr x :: L) (some w :: some v :: ls) H := h
    have h0 : some w = some (V.str (sx y.1)) := h.v0
    have h1 : some v = some (V.str (sx x)) := h.pop.v0
    cases h0
    cases h1
    have e : (if y.1 ≠ [] ∧ y.1.all (· < 256) = true ∧ x.length + 2 ≤ SZ then some (TL.spl y.1 0 [] x) else none) = some c := e
    split at e
    · rename_i hz
      cases e
      refine ⟨sx x, sx y.1, rfl, rfl, ?_, by rw [SZ_eq, S_len]; exact hz.2.2, fun p np => ?_⟩
      · rw [S_len]
        cases hy : y.1 with
        | nil => exact absurd hy hz.1
        | cons a l => rfl
      · have e4 : Txt.split (sx x) (sx y.1) = (TL.spl y.1 0 [] x).map sx := SX.split_S hz.1 hz.2.1
        rw [e4]
        refine q _ _ ((h.pop.pop).own np fun F eF _ => ⟨p, _, rfl, rfl, ?_⟩)
        have : ∀ l : List Tx, AllR K F (l.map aStr) ((l.map sx).map V.str) := fun l => by
          induction l with
          | nil => exact .nil
          | cons c l ih => exact .cons ⟨rfl, rfl⟩ ih
        exact this _
    · cases e
end
end G

set_option maxHeartbeats 4000000
/-! GD: values that may be there or not, readable rows, data of any kind, more of lists, the store's birth. -/
namespace G
open PySem PySem.Spec PyProof.Rows L2
section
variable {X : Cx} {W : WX} {S S2 α β γ Ω o : Type} {Γ : S → List As} {e a b : Expr} {ss rest : List Stmt} {pos p1 p2 : Pos} {P : α → As} {Z : o → Ω → Kd} {Eh : EhT Ω} {π : S → Ω} {K : PySem.W.Frag}
/-! ### there or not -/
def aOpt (P : α → As) : Option α → As
  | none => aV .non
  | some x => P x
instance {P : α → As} [h : ∀ x, Pers (P x)] {x : Option α} : Pers (aOpt P x) := match x with
  | none => (inferInstance : Pers (aV .non))
  | some x => h x
def aOp (P : α → As) : Option α → As
  | none => aNo
  | some x => P x
class Vd (A : As) : Prop where
  v : ∀ {K F O o}, A.rep K F O o → ∃ v, o = some v
instance {A : As} [p : Pers A] : Vd A := ⟨fun h => p.val h⟩
instance {L : List As} : Vd (aLs L) := ⟨fun ⟨p, _, h, _⟩ => ⟨_, h⟩⟩
/-- an owned value in slot i is given its place -/
theorem bl_pin {A : As} {m : S2 → Rs Ω o} {mk : S → S2} (i : Nat) {Γ2 : V → S2 → List As} (hk : ∀ v, Bl X W (Γ2 v) ss m Z Eh) (hΓ : ∀ s, (Γ s)[i]? = some A) (h2 : ∀ v s, (Γ s).set i (aAt v A) = Γ2 v (mk s)) [hv : Vd A] : Bl X W Γ ss (fun s => m (mk s)) Z Eh := by
  refine ⟨tAnyS X ss, pss_any, fun B T ts σ H D s hl hh hw => ?_⟩
  obtain ⟨u, F, O, q1, _, _, q2⟩ := hh.get (get_app (hΓ s))
  obtain ⟨v, rfl⟩ := hv.v q2
  refine (hk v).any B T ts σ H D (mk s) hl ?_ hw
  rw [← h2 v s, ← set_app]
  have hil : T.length + i < (T ++ Γ s).length := (List.getElem?_eq_some_iff.mp (get_app (hΓ s))).1
  refine hh.weak (by simp) fun j C e => ?_
  by_cases hij : T.length + i = j
  · subst hij
    rw [List.getElem?_set_self hil] at e
    cases e
    refine ⟨A, get_app (hΓ s), .inr fun F O o q r => ⟨?_, r⟩⟩
    rw [q1] at q
    exact (Option.some.inj q).symm
  · rw [List.getElem?_set_ne hij] at e
    exact ⟨C, e, .inr fun _ _ _ _ r => r⟩
def sureR {S α Ω o : Type} (ov : Option α) (k : α → S → Rs Ω o) : S → Rs Ω o := fun s => match ov with
  | some x => k x s
  | none => .st
/-- what may be missing is there -/
theorem bl_sure {Γ' : Option α → S → List As} {k : α → S → Rs Ω o} (hk : ∀ x, Bl X W (Γ' (some x)) ss (k x) Z Eh) (ov : Option α) : Bl X W (Γ' ov) ss (sureR ov k) Z Eh := by
  cases ov with
  | some x => exact hk x
  | none => exact ⟨tAnyS X ss, pss_any, fun B T ts σ H D s hl hh hw => hw.elim⟩
/-! ### rows to read -/
def aRs (L : List As) : As := ⟨fun K F O o => O = emp ∧ ∃ a vs, o = some (.ref a) ∧ (SqL K F a vs ∨ SqT K F a vs) ∧ AllR K F L vs, fun e ⟨h, a, vs, h1, h2, h3⟩ => ⟨h, a, vs, h1, h2.imp (seqL_ext e) (seqT_ext e), AllR.ext e h3⟩⟩
abbrev aR (P : α → As) : List α → As := fun xs => aRs (xs.map P)
instance {L : List As} : Pers (aRs L) := ⟨fun h => h.1, fun ⟨_, a, _, h, _⟩ => ⟨_, h⟩⟩
instance {L : List As} : Sq (aRs L) L := ⟨fun ⟨_, a, vs, h1, h2, h3⟩ e _ => ⟨a, vs, h1, h2.imp (seqL_ext e) (seqT_ext e), h3⟩⟩
theorem co_fr {L : List As} : Co (aFl L) (aRs L) := fun K F O o ⟨h, a, vs, h1, h2, h3⟩ => ⟨h, a, vs, h1, .inl h2, h3⟩
theorem co_tr {L : List As} : Co (aTu L) (aRs L) := fun K F O o ⟨h, a, vs, h1, h2, h3⟩ => ⟨h, a, vs, h1, .inr h2, h3⟩
/-- the item of a seq, by ix_seq -/
theorem ix_any : IxR X (rIx X.K) := ix_seq
theorem o_ixR {Pa : List β → As} {P : β → As} (hs : ∀ x, Sq (Pa x) (x.map P)) (hp : ∀ x, Pers (Pa x)) : Op2 K (rIx K) Pa aInt atI P :=
  o_ixQ (r := rIx K) (fun x y H Q ⟨p, xs, i, v, h1, h2, h3, h4, h5⟩ => h3.elim (fun h3 => .inl ⟨p, xs, i, v, h1, h2, h3, h4, h5⟩) fun h3 => .inr (.inl ⟨p, xs, i, v, h1, h2, h3, h4, h5⟩)) hs hp
/-- a pair's item by a written number -/
theorem ex_at {L : α → List As} {Pc : β → As} {f : α → β} {ma : M S α} {j : Nat} (n : Nat) (ha : Ex X W Γ a ma fun x => aTu (L x)) (hL : ∀ x, (L x)[n]? = some (Pc (f x))) : Ex X W Γ (.Subscript a (.Constant (.int n) j p1) pos) (ma >>= fun x => ret (f x)) Pc := by
  obtain ⟨t, ht, hr⟩ := ha
  refine ⟨_, pe_ix ix_tup ht (pe_int (i := n)) (fun _ _ => rfl), fun B T ts σ H Q s hl hh hw => ?_⟩
  rw [bind_wp] at hw
  refine hr B T ts σ H _ s hl hh (hw.mono (fun x s1 q v H1 h1 => ?_) fun _ _ q => q)
  obtain ⟨F, eF, rd, put, _⟩ := h1.view
  obtain ⟨u, O, q1, _, q2⟩ := rd 0 _ rfl
  cases q1
  obtain ⟨_, p, vs, e1, e2, e3⟩ := q2
  cases e1
  obtain ⟨w, w1, w2⟩ : ∃ w, vs[n]? = some w ∧ (Pc (f x)).rep X.K F emp (some w) := by
    have key : ∀ (L : List As) (vs : List V) (n : Nat) (A : As), AllR X.K F L vs → L[n]? = some A → ∃ w, vs[n]? = some w ∧ A.rep X.K F emp (some w) := by
      intro L vs n A h
      induction h generalizing n with
      | nil => intro e; simp at e
      | cons r t ih =>
        cases n with
        | zero => intro e; cases e; exact ⟨_, rfl, r⟩
        | succ n => intro e; exact ih n e
    exact key _ _ _ _ e3 (hL x)
  refine ⟨p, vs, (n : Int), w, rfl, rfl, seqT_ext eF e2, ?_, q w H1 (put _ _ w2).drop1⟩
  have hlt := (List.getElem?_eq_some_iff.mp w1).1
  show (ixN vs.length (n : Int)).bind _ = _
  unfold ixN
  rw [if_pos (by omega), if_pos (by omega)]
  exact w1
theorem o_neB : Op2 K rNe aBl aBl (fun i j => some (!(i == j))) aBl := op2_v fun x y c H Q e q => by
  cases e
  refine ⟨by cases x <;> cases y <;> rfl, ?_⟩
  rw [dec_bl]; exact q
/-! ### data of any kind -/
inductive D where
  | non
  | bl (b : Bool)
  | int (i : Int)
  | str (t : Tx)
  | tup (l : List D)
  | lst (l : List D)
mutual
def aD : D → As
  | .non => aV .non
  | .bl b => aBl b
  | .int i => aInt i
  | .str t => aStr t
  | .tup l => aTu (aDs l)
  | .lst l => aFl (aDs l)
def aDs : List D → List As
  | [] => []
  | d :: l => aD d :: aDs l
end
theorem aDs_map : ∀ l : List D, aDs l = l.map aD
  | [] => by simp [aDs]
  | d :: l => by simp [aDs, aDs_map l]
theorem aD_tup {l : List D} : aD (.tup l) = aTu (l.map aD) := by simp [aD, aDs_map]
theorem aD_lst {l : List D} : aD (.lst l) = aFl (l.map aD) := by simp [aD, aDs_map]
theorem aD_non : aD .non = aV .non := by simp [aD]
theorem aD_bl {b : Bool} : aD (.bl b) = aBl b := by simp [aD]
theorem aD_int {b : Int} : aD (.int b) = aInt b := by simp [aD]
theorem aD_str {b : Tx} : aD (.str b) = aStr b := by simp [aD]
instance {d : D} : Pers (aD d) := by
  cases d with
  | non => rw [aD_non]; infer_instance
  | bl b => rw [aD_bl]; infer_instance
  | int b => rw [aD_int]; infer_instance
  | str b => rw [aD_str]; infer_instance
  | tup b => rw [aD_tup]; infer_instance
  | lst b => rw [aD_lst]; infer_instance
def D.ty : D → String
  | .non => "NoneType"
  | .bl _ => "bool"
  | .int _ => "int"
  | .str _ => "str"
  | .tup _ => "tuple"
  | .lst _ => "list"
def D.isin (T : String) (d : D) : Option Bool := kitB d.ty T
theorem tyx_T {F : Hp} {a : Addr} {vs : List V} (h : SqT K F a vs) : TyX K F (.ref a) (.type "tuple") := by
  rcases h with (h | ⟨ob, h⟩) | ⟨ob, its, n, h1, h2, _⟩
  · exact .base (.tup h)
  · exact .fTuple h
  · exact .kTuple h1 h2
theorem tyx_L {F : Hp} {a : Addr} {vs : List V} (h : SqL K F a vs) : TyX K F (.ref a) (.type "list") := by
  rcases h with (h | ⟨ob, h⟩) | ⟨ob, its, n, h1, h2, _⟩
  · exact .base (.lst h)
  · exact .base (.frz h)
  · exact .kList h1 h2
theorem tyx_D {F O : Hp} {d : D} {v : V} {H : Hp} (h : (aD d).rep K F O (some v)) (e : Ext F H) : TyX K H v (.type d.ty) := by
  cases d with
  | non => rw [aD_non] at h; cases h.1; exact .base .non
  | bl b => rw [aD_bl] at h; cases h.1; exact .base (.bl b)
  | int b => rw [aD_int] at h; cases h.1; exact .base (.int b)
  | str b => rw [aD_str] at h; cases h.1; exact .base (.str _)
  | tup b => rw [aD_tup] at h; obtain ⟨_, a, vs, e1, e2, _⟩ := h; cases e1; exact tyx_T (seqT_ext e e2)
  | lst b => rw [aD_lst] at h; obtain ⟨_, a, vs, e1, e2, _⟩ := h; cases e1; exact tyx_L (seqL_ext e e2)
/-- a built-in type's name -/
theorem ex_ty {x : Str} (T : String) (hm : X.mg x = none) (hv : bootBuiltins x = some (.type T) := by decide +kernel) (hg : Gl X x := by rfl) (hn : x ≠ "__name__" := by decide) (hd : (x == ("__debug__" : Str)) = false := by decide) : Ex X W Γ (.Name x pos) (ret ()) fun _ => aV (.ty T) :=
  ⟨_, pe_bltn (v := .ty T) hg hm hv rfl hn hd, fun B T' ts σ H Q s hl hh hw => hw _ _ (hh.pushV _)⟩
/-- isinstance(d, T) -/
theorem b_isi (T : String) : Bl1 (rIsi K) K (fun z : D × (Unit × Unit) => [aD z.1, aV (.ty T)]) (fun z => z.1.isin T) aBl := by
  intro B L ls H x vs c Q hn h e q
  match vs, hn with
  | [v, w], _ =>
    have h0 : Hold B K (aD x.1 :: aV (.ty T) :: L) (some v :: some w :: ls) H := h
    have h2 : some w = some (V.ty T) := h0.pop.v0
    cases h2
    obtain ⟨F, O, eF, eO, r⟩ := h0.get0
    exact ⟨v, .ty T, _, .type T, c, rfl, .ty T, tyx_D r eF, kit_ty e, q _ H (h0.pop.pop.pushV _)⟩
def D.isN : D → Bool
  | .non => true
  | _ => false
theorem o_isND : Op2 K rIsN aD aNon (fun d _ => some d.isN) aBl := by
  intro B L vs H x y v u c Q h e q
  cases e
  have h1 : some u = some V.non := h.v0
  cases h1
  obtain ⟨F, O, eF, eO, r⟩ := h.pop.get0
  refine ⟨rfl, ?_⟩
  have e : decide (v = V.non) = x.isN := by
    cases x with
    | non => rw [aD_non] at r; cases r.1; rfl
    | bl b => rw [aD_bl] at r; cases r.1; rfl
    | int b => rw [aD_int] at r; cases r.1; rfl
    | str b => rw [aD_str] at r; cases r.1; rfl
    | tup b => rw [aD_tup] at r; obtain ⟨_, a, vs, e1, e2, _⟩ := r; cases e1; rfl
    | lst b => rw [aD_lst] at r; obtain ⟨_, a, vs, e1, e2, _⟩ := r; cases e1; rfl
  rw [e]
  exact q _ H (h.pop.pop.pushV _)
theorem o_notND : Op2 K rNotN aD aNon (fun d _ => some (!d.isN)) aBl := by
  intro B L vs H x y v u c Q h e q
  cases e
  have h1 : some u = some V.non := h.v0
  cases h1
  obtain ⟨F, O, eF, eO, r⟩ := h.pop.get0
  refine ⟨rfl, ?_⟩
  have e : decide (v = V.non) = x.isN := by
    cases x with
    | non => rw [aD_non] at r; cases r.1; rfl
    | bl b => rw [aD_bl] at r; cases r.1; rfl
    | int b => rw [aD_int] at r; cases r.1; rfl
    | str b => rw [aD_str] at r; cases r.1; rfl
    | tup b => rw [aD_tup] at r; obtain ⟨_, a, vs, e1, e2, _⟩ := r; cases e1; rfl
    | lst b => rw [aD_lst] at r; obtain ⟨_, a, vs, e1, e2, _⟩ := r; cases e1; rfl
  rw [e]
  exact q _ H (h.pop.pop.pushV _)
/-- != of two plain values of one kind -/
def D.ne : D → D → Option Bool
  | .non, .non => some false
  | .bl a, .bl b => some (!(a == b))
  | .int a, .int b => some (!decide (a = b))
  | .str a, .str b => some (!decide (a = b))
  | _, _ => none
theorem o_neD : Op2 K rNe aD aD D.ne aBl := by
  intro B L vs H x y v u c Q h e q
  obtain ⟨F, O, eF, eO, r⟩ := h.get0
  obtain ⟨F', O', eF', eO', r'⟩ := h.pop.get0
  have fin : ∀ k, k = c → Q (.bl k) H := fun k ek => by subst ek; exact q _ H (h.pop.pop.pushV _)
  cases x <;> cases y <;> first | (cases e; done) | skip
  · rw [aD_non] at r r'; cases r.1; cases r'.1; cases e; exact ⟨rfl, fin _ rfl⟩
  · rw [aD_bl] at r r'; cases r.1; cases r'.1; cases e; exact ⟨rfl, fin _ (by rw [dec_bl])⟩
  · rw [aD_int] at r r'; cases r.1; cases r'.1; cases e
    refine ⟨rfl, fin _ ?_⟩
    rw [dec_int, Bool.eq_iff_iff]; simp
  · rw [aD_str] at r r'; cases r.1; cases r'.1; cases e
    refine ⟨rfl, fin _ ?_⟩
    rw [sx_dec]
def D.its : D → Option (List D)
  | .tup l => some l
  | .lst l => some l
  | _ => none
theorem aD_its {F O : Hp} {d : D} {l : List D} {v : V} (h : (aD d).rep K F O (some v)) (e : d.its = some l) : ∃ a vs, v = .ref a ∧ (SqL K F a vs ∨ SqT K F a vs) ∧ AllR K F (l.map aD) vs := by
  cases d <;> cases e
  · rw [aD_tup] at h; obtain ⟨_, a, vs, e1, e2, e3⟩ := h; cases e1; exact ⟨a, vs, rfl, .inr e2, e3⟩
  · rw [aD_lst] at h; obtain ⟨_, a, vs, e1, e2, e3⟩ := h; cases e1; exact ⟨a, vs, rfl, .inl e2, e3⟩
theorem b_lenD : Bl1 (fun vs H Q => ∃ p ys, vs = [.ref p] ∧ (SqL K H p ys ∨ SqT K H p ys) ∧ Q (.int ys.length) H) K (fun z : D × Unit => [aD z.1]) (fun z => z.1.its.map fun l => (l.length : Int)) aInt := by
  intro B L ls H x vs c Q hn h e q
  match vs, hn with
  | [v], _ =>
    obtain ⟨F, O, eF, eO, r⟩ := Hold.get0 (L := L) h
    have e : (x.1.its.map fun l => (l.length : Int)) = some c := e
    cases hi : x.1.its with
    | none => rw [hi] at e; cases e
    | some l =>
      rw [hi] at e
      cases e
      obtain ⟨a, ws, rfl, e2, e3⟩ := aD_its r hi
      have hlen := e3.len
      rw [List.length_map] at hlen
      refine ⟨a, ws, rfl, e2.imp (seqL_ext eF) (seqT_ext eF), ?_⟩
      rw [← hlen]
      exact q _ H (h.pop.pushV _)
theorem o_ixD : Op2 K (rIx K) aD aInt (fun d j => d.its.bind fun l => atI l j) aD := by
  intro B L vs H x y v u c Q h e q
  have h1 : some u = some (V.int y) := h.v0
  cases h1
  obtain ⟨F, eF, rd, put, _⟩ := h.view
  obtain ⟨z, O, q1, _, r⟩ := rd 1 _ rfl
  cases q1
  have e : (x.its.bind fun l => atI l y) = some c := e
  cases hi : x.its with
  | none => rw [hi] at e; cases e
  | some l =>
    rw [hi] at e
    have e : (ixN l.length y).bind (fun k => l[k]?) = some c := e
    obtain ⟨a, ws, rfl, e2, e3⟩ := aD_its r hi
    have hlen := e3.len
    rw [List.length_map] at hlen
    cases zz : ixN l.length y with
    | none => rw [zz] at e; cases e
    | some n =>
      rw [zz] at e
      obtain ⟨w, w1, w2⟩ := e3.get (P := aD) (show l[n]? = some c from e)
      have e4 : atI ws y = some w := by show (ixN ws.length y).bind _ = _; rw [← hlen, zz]; exact w1
      have e5 : Q w H := q w H ((put _ _ w2).drop2)
      rcases e2 with e2 | e2
      · exact .inl ⟨a, ws, y, w, rfl, rfl, seqL_ext eF e2, e4, e5⟩
      · exact .inr (.inl ⟨a, ws, y, w, rfl, rfl, seqT_ext eF e2, e4, e5⟩)
end
end G

set_option maxHeartbeats 4000000
/-! GE: lists that stand in a slot: +, *, insert, pop, item stores, join; the store's birth; a call by keywords. -/
namespace G
open PySem PySem.Spec PyProof.Rows L2
section
variable {X : Cx} {W : WX} {S S2 α β γ Ω ξ o : Type} {Γ : S → List As} {e a b : Expr} {ss rest : List Stmt} {pos p1 p2 : Pos} {P : α → As} {Z : o → Ω → Kd} {Eh : EhT Ω} {π : S → Ω} {K : PySem.W.Frag}
theorem own_write {B : Ent} {T L : List As} {ts σ : List (Option V)} {H : Hp} {Ls Ls' : List As} {p : Addr} {ws ws' : List V} {i : Nat} (hl : ts.length = T.length) (h : Hold B K (T ++ L) (ts ++ σ) H) (e : L[i]? = some (aAt (.ref p) (aLs Ls))) (hp : H p = some (.lst ws))
    (k : ∀ F, Ext F H → Reads K F H (T ++ L) (ts ++ σ) → AllR K F Ls ws → AllR K F Ls' ws') : Hold B K (T ++ L.set i (aAt (.ref p) (aLs Ls'))) (ts ++ σ) (upd H p (.lst ws')) := by
  have h7 := h.write (i := T.length + i) (p := p) (o' := .lst ws') (A' := aAt (.ref p) (aLs Ls')) (get_app e) fun F' O u z1 z2 z3 ⟨z4, p', w0, z5, z6, z7⟩ rd => by
    subst z4
    cases z5
    have ew : w0 = ws := by
      have a1 : H p = some (.lst w0) := z3 _ _ (by rw [z6]; exact one_at)
      rw [a1] at hp
      cases hp
      rfl
    subst ew
    exact ⟨⟨_, by rw [z6]; exact one_at⟩, rfl, p, ws', rfl, by rw [z6]; exact upd_upd, k F' z2 rd z7⟩
  rw [set_app] at h7
  exact h7
theorem allR_take {F : Hp} : ∀ (n : Nat) {L : List As} {vs : List V}, AllR K F L vs → AllR K F (L.take n) (vs.take n)
  | 0, _, _, _ => by simp only [List.take_zero]; exact .nil
  | n + 1, _, _, .nil => .nil
  | n + 1, _, _, .cons r t => .cons r (allR_take n t)
theorem allR_drop {F : Hp} : ∀ (n : Nat) {L : List As} {vs : List V}, AllR K F L vs → AllR K F (L.drop n) (vs.drop n)
  | 0, _, _, h => h
  | n + 1, _, _, .nil => .nil
  | n + 1, _, _, .cons r t => allR_drop n t
theorem allR_set {F : Hp} {A : As} {v : V} (r : A.rep K F emp (some v)) : ∀ (n : Nat) {L : List As} {vs : List V}, AllR K F L vs → AllR K F (L.set n A) (vs.set n v)
  | _, _, _, .nil => .nil
  | 0, _, _, .cons _ t => .cons r t
  | n + 1, _, _, .cons q t => .cons q (allR_set r n t)
theorem allR_rep {F : Hp} {L : List As} {vs : List V} (h : AllR K F L vs) : ∀ n : Nat, AllR K F (List.replicate n L).flatten (List.replicate n vs).flatten
  | 0 => .nil
  | n + 1 => by rw [List.replicate_succ, List.replicate_succ, List.flatten_cons, List.flatten_cons]; exact allR_app h (allR_rep h n)
/-! ### xs + ys, both new -/
def catL {α : Type} (a b : List α) : Option (List α) := if a.length + b.length ≤ SZ then some (a ++ b) else none
theorem o_catL : Op2 K rCat (aL P) (aL P) catL (aL P) := by
  intro B L vs H x y v u c Q h e q
  obtain ⟨F, eF, rd, put, new, own⟩ := h.view
  obtain ⟨u1, O1, q1, eO1, p1, ws1, e1, e2, e3⟩ := rd 0 _ rfl
  obtain ⟨u2, O2, q2, eO2, p2, ws2, e4, e5, e6⟩ := rd 1 _ rfl
  cases q1; cases q2; cases e1; cases e4
  have l1 := e3.len
  have l2 := e6.len
  rw [List.length_map] at l1 l2
  unfold catL at e
  split at e
  · rename_i hz
    cases e
    refine ⟨p2, p1, ws2, ws1, rfl, rfl, eO2 _ _ (by rw [e5]; exact one_at), eO1 _ _ (by rw [e2]; exact one_at), by rw [SZ_eq]; omega, fun l nl => ?_⟩
    refine q _ _ (own l (.lst (ws2 ++ ws1)) (aL P (x ++ y)) (.ref l) nl ⟨l, _, rfl, rfl, ?_⟩).drop2
    rw [List.map_append]
    exact allR_app e6 e3
  · cases e
section
variable {x : Str} {v : V} {get : S → List α} (i : Nat)
/-- x + e -/
theorem ex_catB {px : Pos} {me : M S (List α)} (hΓ : ∀ s, (Γ s)[i]? = some (aAt v (aL P (get s)))) (he : Ex X W Γ e me (aL P)) (hN : X.N[i]? = some x := by rfl) (hv : Vis X.env.scope x := by first | exact Or.inl rfl | exact Or.inr (Or.inl rfl) | exact Or.inr (Or.inr rfl))
    (hd : (x == ("__debug__" : Str)) = false := by decide) (hcd : (x == ("__classdict__" : Str)) = false := by decide) : Ex X W Γ (.BinOp (.Name x px) .Add e pos) (me >>= fun ys => ms fun s => lf (catL (get s) ys) s) (aL P) := by
  obtain ⟨t, ht, hr⟩ := he
  refine ⟨_, pe_op op_cat (pe_var hN hv hd hcd) ht, fun B T ts σ H Q s hl hh hw => ?_⟩
  obtain ⟨e0, _⟩ := own_at hl hh (hΓ s)
  refine ⟨v, e0, ?_⟩
  rw [bind_wp] at hw
  refine hr B T ts σ H _ s hl hh (hw.mono (fun ys s1 q w H1 h1 => ?_) fun _ _ q => q)
  obtain ⟨c, e1, q⟩ := lf_wp.mp q
  obtain ⟨F0, O0, eF0, eO0, p0, ws0, f1, f2, f3⟩ := h1.get0
  cases f1
  have h1' : Hold B X.K ((aL P ys :: T) ++ Γ s1) ((some (V.ref p0) :: ts) ++ σ) H1 := h1
  obtain ⟨e2, F, p, ws, eF, rfl, h2, h3, put, new, own⟩ := own_at (by simp [hl]) h1' (hΓ s1)
  have l1 := h3.len
  have l2 := f3.len
  rw [List.length_map] at l1 l2
  unfold catL at e1
  split at e1
  · rename_i hz
    cases e1
    refine ⟨p, p0, ws, ws0, rfl, rfl, h2, eO0 _ _ (by rw [f2]; exact one_at), by rw [SZ_eq]; omega, fun l nl => ?_⟩
    obtain ⟨F, eF, rd, put, new, own⟩ := h1'.view
    obtain ⟨u1, O1, q1, eO1, pp, wp, g1, g2, g3⟩ := rd 0 _ rfl
    obtain ⟨u2, O2, q2, eO2, g4, pq, wq, g5, g6, g7⟩ := rd _ _ (get_app (hΓ s1))
    cases q1; cases g1
    subst g4
    cases g5
    have a1 : H1 p = some (.lst wq) := eO2 _ _ (by rw [g6]; exact one_at)
    rw [a1] at h2
    cases h2
    have a2 : H1 p0 = some (.lst wp) := eO1 _ _ (by rw [g2]; exact one_at)
    have a3 : H1 p0 = some (.lst ws0) := eO0 _ _ (by rw [f2]; exact one_at)
    rw [a2] at a3
    cases a3
    refine q _ _ (show Hold B X.K (_ :: aL P ys :: (T ++ Γ s1)) (_ :: some (V.ref p0) :: (ts ++ σ)) _ from own l (.lst (ws ++ ws0)) (aL P (get s1 ++ ys)) (.ref l) nl ⟨l, _, rfl, rfl, ?_⟩).drop1
    rw [List.map_append]
    exact allR_app g7 g3
  · cases e1
/-- x * n -/
def repL {α : Type} (a : List α) (n : Int) : Option (List α) := if -(2 ^ 63) ≤ n ∧ n < 2 ^ 63 ∧ a.length * n.toNat ≤ SZ then some (List.replicate n.toNat a).flatten else none
theorem ex_repB {px : Pos} {me : M S Int} (hΓ : ∀ s, (Γ s)[i]? = some (aAt v (aL P (get s)))) (he : Ex X W Γ e me aInt) (hN : X.N[i]? = some x := by rfl) (hv : Vis X.env.scope x := by first | exact Or.inl rfl | exact Or.inr (Or.inl rfl) | exact Or.inr (Or.inr rfl))
    (hd : (x == ("__debug__" : Str)) = false := by decide) (hcd : (x == ("__classdict__" : Str)) = false := by decide) : Ex X W Γ (.BinOp (.Name x px) .Mult e pos) (me >>= fun n => ms fun s => lf (repL (get s) n) s) (aL P) := by
  obtain ⟨t, ht, hr⟩ := he
  refine ⟨_, pe_op op_rep (pe_var hN hv hd hcd) ht, fun B T ts σ H Q s hl hh hw => ?_⟩
  obtain ⟨e0, _⟩ := own_at hl hh (hΓ s)
  refine ⟨v, e0, ?_⟩
  rw [bind_wp] at hw
  refine hr B T ts σ H _ s hl hh (hw.mono (fun n s1 q w H1 h1 => ?_) fun _ _ q => q)
  obtain ⟨c, e1, q⟩ := lf_wp.mp q
  have hw0 := h1.v0
  cases hw0
  obtain ⟨e2, F, p, ws, eF, rfl, h2, h3, put, new, own⟩ := own_at hl h1.pop (hΓ s1)
  have l1 := h3.len
  rw [List.length_map] at l1
  unfold repL at e1
  split at e1
  · rename_i hz
    cases e1
    refine ⟨p, n, ws, rfl, rfl, h2, hz.1, hz.2.1, by rw [SZ_eq, ← l1]; exact hz.2.2, fun l nl => q _ _ (own l _ _ (.ref l) nl ⟨l, _, rfl, rfl, ?_⟩)⟩
    have : (List.replicate n.toNat (get s1)).flatten.map P = (List.replicate n.toNat ((get s1).map P)).flatten := by
      rw [List.map_flatten, List.map_replicate]
    show AllR X.K F ((List.replicate n.toNat (get s1)).flatten.map P) _
    rw [this]
    exact allR_rep h3 _
  · cases e1
/-- sep.join(x) -/
theorem ex_joinB {px ap : Pos} {y : Expr} {mo : M S Tx} {get : S → List Tx} (hΓ : ∀ s, (Γ s)[i]? = some (aAt v (aL aStr (get s)))) (ho : Ex X W Γ y mo aStr) (hN : X.N[i]? = some x := by rfl) (hv : Vis X.env.scope x := by first | exact Or.inl rfl | exact Or.inr (Or.inl rfl) | exact Or.inr (Or.inr rfl))
    (hd : (x == ("__debug__" : Str)) = false := by decide) (hcd : (x == ("__classdict__" : Str)) = false := by decide)
    (hbase : attributeBase y "join" X.env (eval y X.env) = eval y X.env := by rfl)
    (hfew : ((backTo pos (starEach [Expr.Name x px] X.env)).all (fun x => !x.1) && (backToKw pos (keywordEach [] X.env)).all (fun x => x.1.isSome)
      && decide ([Expr.Name x px].length + ([] : List Keyword).length + (if ([] : List Keyword).isEmpty then 0 else 1) < 30)) = true := by rfl)
    (hline : (ap.endLine == pos.line) = true := by rfl) (hs : starEach [Expr.Name x px] X.env = (false, eval (.Name x px) X.env) :: starEach [] X.env := by rfl) (hplain : (backTo pos (starEach [] X.env)).any (·.1) = false := by rfl) :
    Ex X W Γ (.Call (.Attribute y "join" ap) [.Name x px] [] pos) (mo >>= fun a => ms fun s => lf (joinT a (get s)) s) aStr := by
  obtain ⟨t, ht, hr⟩ := ho
  refine ⟨_, pe_bm PySem.F.plainAttrs_str PySem.F.slot_str_join PySem.F.type_str_join mt_join ht (pa_cons (pe_var hN hv hd hcd) pa_nil hs) hbase hfew hline hs hplain, fun B T ts σ H Q s hl hh hw => ?_⟩
  rw [bind_wp] at hw
  refine hr B T ts σ H _ s hl hh (hw.mono (fun a s1 q w H1 h1 => ?_) fun _ _ q => q)
  have hw0 := h1.v0
  cases hw0
  obtain ⟨c, e1, q⟩ := lf_wp.mp q
  obtain ⟨e2, F, p, ws, eF, rfl, h2, h3, put, _⟩ := own_at hl h1.pop (hΓ s1)
  have := allR_str h3
  subst this
  have e1 : (if ((get s1).map List.length).sum + (get s1).length * a.length ≤ SZ then some (TL.joinL a (get s1)) else none) = some c := e1
  split at e1
  · rename_i hz
    cases e1
    refine ⟨rfl, .ref p, e2, sx a, p, (get s1).map sx, rfl, rfl, .inl (.inl (.inl h2)), ?_, ?_⟩
    · have : ((get s1).map sx).map (·.length) = (get s1).map List.length := SX.lens (get s1)
      rw [this, List.length_map, SX.S_len]
      exact hz
    · have e4 : Txt.join (sx a) ((get s1).map sx) = sx (TL.joinL a (get s1)) := SX.join_S a (get s1)
      rw [e4]
      exact q _ H1 (h1.pop.pushV _)
  · cases e1
def popM {S α : Type} (get : S → List α) (put : S → List α → S) : M S α := fun s => match (get s)[(get s).length - 1]? with
  | some c => .ok c (put s (get s).dropLast)
  | none => .st
def ixM {S α : Type} (get : S → List α) (a : α) (j : Int) : M S (α × Nat) := fun s => match ixN (get s).length j with
  | some n => .ok (a, n) s
  | none => .st
/-- x.pop() -/
theorem ex_popB {px ap : Pos} {put : S → List α → S} (hΓ : ∀ s, (Γ s)[i]? = some (aAt v (aL P (get s)))) (hput : ∀ s l, (Γ s).set i (aAt v (aL P l)) = Γ (put s l)) (hN : X.N[i]? = some x := by rfl) (hv : Vis X.env.scope x := by first | exact Or.inl rfl | exact Or.inr (Or.inl rfl) | exact Or.inr (Or.inr rfl))
    (hd : (x == ("__debug__" : Str)) = false := by decide) (hcd : (x == ("__classdict__" : Str)) = false := by decide)
    (hbase : attributeBase (.Name x px) "pop" X.env (eval (.Name x px) X.env) = eval (.Name x px) X.env := by rfl) (hline : (ap.endLine == pos.line) = true := by rfl) :
    Ex X W Γ (.Call (.Attribute (.Name x px) "pop" ap) [] [] pos) (popM get put) P := by
  refine ⟨_, pe_bm0 PySem.F.plainAttrs_list PySem.F.slot_list_pop PySem.F.type_list_pop mt_pop (pe_var hN hv hd hcd) hbase hline, fun B T ts σ H Q s hl hh hw => ?_⟩
  obtain ⟨e0, F, p, ws, eF, rfl, h2, h3, put', _⟩ := own_at hl hh (hΓ s)
  refine ⟨.ref p, e0, .inl ⟨rfl, ws, .inl (.inl h2)⟩, ?_⟩
  have l1 := h3.len
  rw [List.length_map] at l1
  have hw : Rs.wp (match (get s)[(get s).length - 1]? with
      | some c => .ok c (put s (get s).dropLast)
      | none => .st) _ _ := hw
  cases hc : (get s)[(get s).length - 1]? with
  | none => rw [hc] at hw; exact hw.elim
  | some c =>
    rw [hc] at hw
    obtain ⟨w, w1, w2⟩ := h3.get hc
    have h4 : Hold B X.K ((P c :: T) ++ Γ s) ((some w :: ts) ++ σ) H := put' _ _ w2
    have h5 := own_write (Ls' := (get s).dropLast.map P) (ws' := ws.dropLast) (by simp [hl]) h4 (hΓ s) h2 fun F eF rd ar => by
      have e1 : (get s).dropLast.map P = ((get s).map P).take ((get s).length - 1) := by rw [List.dropLast_eq_take, List.map_take]
      have e2 : ws.dropLast = ws.take ((get s).length - 1) := by rw [List.dropLast_eq_take, l1]
      rw [e1, e2]
      exact allR_take _ ar
    rw [hput] at h5
    exact ⟨p, ws, w, rfl, rfl, h2, by rw [← l1]; exact w1, hw w _ h5⟩
/-- x.insert(e1, e2) -/
theorem bl_insert {px ap : Pos} {e1 e2 : Expr} {me : M S (Int × (α × Unit))} {mk : Int × (α × Unit) → S → S2} {Γ2 : Int × (α × Unit) → S2 → List As} {k : Int × (α × Unit) → S2 → Rs Ω o} (hΓ : ∀ s, (Γ s)[i]? = some (aAt v (aL P (get s)))) (he : Ea X W Γ [e1, e2] me fun z => [aInt z.1, P z.2.1]) (hEh : EhOk X Γ π Eh) (hp : ∀ y, Pers (P y)) (hk : ∀ a, Bl X W (Γ2 a) rest (k a) Z Eh)
    (hmk : ∀ a s, (Γ s).set i (aAt v (aL P ((get s).take a.1.toNat ++ [a.2.1] ++ (get s).drop a.1.toNat))) = Γ2 a (mk a s))
    (hN : X.N[i]? = some x := by rfl) (hv : Vis X.env.scope x := by first | exact Or.inl rfl | exact Or.inr (Or.inl rfl) | exact Or.inr (Or.inr rfl))
    (hd : (x == ("__debug__" : Str)) = false := by decide) (hcd : (x == ("__classdict__" : Str)) = false := by decide)
    (hbase : attributeBase (.Name x px) "insert" X.env (eval (.Name x px) X.env) = eval (.Name x px) X.env := by rfl)
    (hfew : ((backTo p1 (starEach [e1, e2] X.env)).all (fun x => !x.1) && (backToKw p1 (keywordEach [] X.env)).all (fun x => x.1.isSome)
      && decide ([e1, e2].length + ([] : List Keyword).length + (if ([] : List Keyword).isEmpty then 0 else 1) < 30)) = true := by rfl)
    (hline : (ap.endLine == p1.line) = true := by rfl) (hs : starEach [e1, e2] X.env = (false, eval e1 X.env) :: starEach [e2] X.env := by rfl) (hplain : (backTo p1 (starEach [e2] X.env)).any (·.1) = false := by rfl) (hsw : swapsWith (.Call (.Attribute (.Name x px) "insert" ap) [e1, e2] [] p1) none pos.line X.env = pure false := by rfl) :
    Bl X W Γ (.Expr (.Call (.Attribute (.Name x px) "insert" ap) [e1, e2] [] p1) pos :: rest) (bdo π (me >>= fun a => ms fun s => if (get s).length < SZ ∧ 0 ≤ a.1 ∧ a.1 < 2 ^ 63 then .ok a s else .st) mk k) Z Eh := by
  obtain ⟨t, ht, hr⟩ := he
  refine ⟨_, pss_cons (ps_expr (pe_bm PySem.F.plainAttrs_list PySem.F.slot_list_insert PySem.F.type_list_insert mt_insert (pe_var hN hv hd hcd) ht hbase hfew hline hs hplain) hsw) pss_any, fun B T ts σ H D s hl hh hw => ?_⟩
  rw [bdo_wp, bind_wp] at hw
  obtain ⟨e0, F, p, ws, eF, rfl, h3, h4, _⟩ := own_at hl hh (hΓ s)
  refine ⟨.ref p, e0, .inl ⟨rfl, ws, .inl (.inl h3)⟩, ?_⟩
  refine hr B T ts σ H _ s hl hh (hw.mono (fun a s1 q vs H1 hn h1 => ?_) fun x s1 q C d H' hx => q C d σ H' (hEh s1 x B T ts σ C d H' hl hx))
  match vs, hn with
  | [w1, w2], _ =>
  have h1' : Hold B X.K (([aInt a.1, P a.2.1] ++ T) ++ Γ s1) (([some w1, some w2] ++ ts) ++ σ) H1 := h1
  obtain ⟨e1, F1, p1, ws1, eF1, ep, h5, h6, _⟩ := own_at (by simp [hl]) h1' (hΓ s1)
  cases ep
  have hlen := h6.len
  rw [List.length_map] at hlen
  have q := (show Rs.wp (if (get s1).length < SZ ∧ 0 ≤ a.1 ∧ a.1 < 2 ^ 63 then Rs.ok a s1 else Rs.st) _ _ from q)
  split at q
  · rename_i hz
    have hw0 : some w1 = some (V.int a.1) := Hold.v0 (L := P a.2.1 :: (T ++ Γ s1)) (vs := some w2 :: (ts ++ σ)) h1
    cases hw0
    refine ⟨p, ws1, a.1, w2, rfl, rfl, h5, by rw [SZ_eq]; omega, hz.2.1, hz.2.2, ?_⟩
    have h7 := own_write (Ls' := ((get s1).take a.1.toNat ++ [a.2.1] ++ (get s1).drop a.1.toNat).map P) (ws' := ws1.take a.1.toNat ++ [w2] ++ ws1.drop a.1.toNat) (by simp [hl]) h1' (hΓ s1) h5 fun F eF rd ar => by
      obtain ⟨u0, O0, y1, _, y2⟩ := rd 1 (P a.2.1) rfl
      cases y1
      have y3 := (hp a.2.1).eO y2
      subst y3
      rw [List.map_append, List.map_append, List.map_take, List.map_drop]
      exact allR_app (allR_app (allR_take _ ar) (.cons y2 .nil)) (allR_drop _ ar)
    rw [hmk] at h7
    exact (hk a).any B T ts σ _ D _ hl (Hold.pop (Hold.pop (show Hold B X.K (aInt a.1 :: P a.2.1 :: (T ++ Γ2 a (mk a s1))) (some (V.int a.1) :: some w2 :: (ts ++ σ)) _ from h7))) q
  · exact q.elim
/-- x[e1] = e2 -/
theorem bl_ixset {px : Pos} {p3 : Pos} {e1 e2 : Expr} {m1 : M S Int} {m2 : M S α} {mk : α × Nat → S → S2} {Γ2 : α × Nat → S2 → List As} {k : α × Nat → S2 → Rs Ω o} (hΓ : ∀ s, (Γ s)[i]? = some (aAt v (aL P (get s)))) (h2 : Ex X W Γ e2 m2 P) (h1 : Ex X W Γ e1 m1 aInt) (hEh : EhOk X Γ π Eh) (hp : ∀ y, Pers (P y)) (hk : ∀ a, Bl X W (Γ2 a) rest (k a) Z Eh)
    (hmk : ∀ a s, (Γ s).set i (aAt v (aL P ((get s).set a.2 a.1))) = Γ2 a (mk a s))
    (hN : X.N[i]? = some x := by rfl) (hv : Vis X.env.scope x := by first | exact Or.inl rfl | exact Or.inr (Or.inl rfl) | exact Or.inr (Or.inr rfl))
    (hd : (x == ("__debug__" : Str)) = false := by decide) (hcd : (x == ("__classdict__" : Str)) = false := by decide)
    (hs : swapsWithSole [.Subscript (.Name x px) e1 p3] e2 pos.line X.env = pure false := by rfl) (hw : swappedStores [.Subscript (.Name x px) e1 p3] e2 X.env = pure none := by rfl)
    (hh1 : (assignEach [.Subscript (.Name x px) e1 p3] X.env).map (·.2) = [assign (.Subscript (.Name x px) e1 p3) X.env] := by rfl)
    (hasg : ∀ v, assign (.Subscript (.Name x px) e1 p3) X.env v = (do
      let ov ← holding [v] (eval (.Name x px) X.env)
      let iv ← holding [v, ov] (eval e1 X.env)
      standAt p3
      holding [v, ov, iv] (setItem ov iv v)
      release [v, ov, iv] []) := by intro _; rfl) :
    Bl X W Γ (.Assign [.Subscript (.Name x px) e1 p3] e2 pos :: rest) (bdo π (m2 >>= fun a => m1 >>= fun j => ixM get a j) mk k) Z Eh := by
  obtain ⟨t2, ht2, hr2⟩ := h2
  obtain ⟨t1, ht1, hr1⟩ := h1
  refine ⟨_, pss_cons (ps_asg ht2 (pg_sub (pe_var hN hv hd hcd) ht1 set_list hasg) hs hw hh1) pss_any, fun B T ts σ H D s hl hh hw => ?_⟩
  rw [bdo_wp, bind_wp] at hw
  refine hr2 B T ts σ H _ s hl hh (hw.mono (fun a s1 q w H1 h1 => ?_) fun x s1 q C d H' hx => q C d σ H' (hEh s1 x B T ts σ C d H' hl hx))
  rw [bind_wp] at q
  have h1' : Hold B X.K ((P a :: T) ++ Γ s1) ((some w :: ts) ++ σ) H1 := h1
  obtain ⟨e0, _⟩ := own_at (by simp [hl]) h1' (hΓ s1)
  refine ⟨v, e0, ?_⟩
  refine hr1 B (P a :: T) (some w :: ts) σ H1 _ s1 (by simp [hl]) h1' (q.mono (fun j s2 q2 w2 H2 h2 => ?_) fun x s2 q C d H' hx => q C d σ H' (hEh s2 x B T ts σ C d H' hl (hx.to fun z => z.pop)))
  have hw0 := h2.v0
  cases hw0
  have h3 := h2.pop
  obtain ⟨e1, F1, p, ws, eF1, rfl, h5, h6, _⟩ := own_at (by simp [hl]) h3 (hΓ s2)
  have hlen := h6.len
  rw [List.length_map] at hlen
  have q2 : Rs.wp (match ixN (get s2).length j with
      | some n => .ok (a, n) s2
      | none => .st) _ _ := q2
  cases hn : ixN (get s2).length j with
  | none => rw [hn] at q2; exact q2.elim
  | some n =>
    rw [hn] at q2
    refine ⟨p, ws, j, n, rfl, rfl, h5, by rw [← hlen]; exact hn, ?_⟩
    have h7 := own_write (Ls' := ((get s2).set n a).map P) (ws' := ws.set n w) (by simp [hl]) h3 (hΓ s2) h5 fun F eF rd ar => by
      obtain ⟨u0, O0, y1, _, y2⟩ := rd 0 (P a) rfl
      cases y1
      have y3 := (hp a).eO y2
      subst y3
      rw [List.map_set]
      exact allR_set y2 _ ar
    have q3 := q2
    have e7 := hmk (a, n) s2
    rw [e7] at h7
    exact (hk (a, n)).any B T ts σ _ D _ hl (show Hold B X.K (P a :: (T ++ Γ2 (a, n) (mk (a, n) s2))) (some w :: (ts ++ σ)) _ from h7).pop q3
end
end
end G

set_option maxHeartbeats 4000000
/-! GF: the store's birth; a call by keywords alone. -/
namespace G
open PySem PySem.Spec PyProof.Rows L2
section
variable {X : Cx} {W : WX} {S S2 α β γ Ω ξ o : Type} {Γ : S → List As} {e a b : Expr} {ss rest : List Stmt} {pos p p1 p2 : Pos} {P : α → As} {Z : o → Ω → Kd} {Eh : EhT Ω} {π : S → Ω} {K : PySem.W.Frag}
theorem ex_store {x y : Str} (i j : Nat) {f : S → List Int} {g : S → Int} {n1 n2 n3 n4 n5 n6 n7 m2 m3 m4 m5 m6 : Nat} {q1 q2 q3 q4 q5 q6 q7 r1 r2 r3 r4 r5 r6 r7 : Pos} (hi : ∀ s, (Γ s)[i]? = some (aF aInt (f s))) (hj : ∀ s, (Γ s)[j]? = some (aInt (g s)))
    (hN : X.N[i]? = some x := by rfl) (hv : Vis X.env.scope x := by first | exact Or.inl rfl | exact Or.inr (Or.inl rfl) | exact Or.inr (Or.inr rfl)) (hd : (x == ("__debug__" : Str)) = false := by decide) (hcd : (x == ("__classdict__" : Str)) = false := by decide)
    (hN2 : X.N[j]? = some y := by rfl) (hv2 : Vis X.env.scope y := by first | exact Or.inl rfl | exact Or.inr (Or.inl rfl) | exact Or.inr (Or.inr rfl)) (hd2 : (y == ("__debug__" : Str)) = false := by decide) (hcd2 : (y == ("__classdict__" : Str)) = false := by decide) :
    Ex X W Γ (.Dict [some (.Constant (.str (Str.ofString "cells")) n1 q1), some (.Constant (.str (Str.ofString "at")) n2 q2), some (.Constant (.str (Str.ofString "rest")) n3 q3), some (.Constant (.str (Str.ofString "left")) n4 q4), some (.Constant (.str (Str.ofString "small")) n5 q5), some (.Constant (.str (Str.ofString "turn")) n6 q6), some (.Constant (.str (Str.ofString "seed")) n7 q7)]
      [.Name x r1, .Constant (.int 0) m2 r2, .Constant (.int 0) m3 r3, .Constant (.int 0) m4 r4, .Constant (.int 0) m5 r5, .Constant (.int 0) m6 r6, .Name y r7] pos) (rd fun s => Store.mk (f s) 0 0 0 0 0 (g s)) aStore := by
  refine ⟨_, pe_disp (pps_cons pe_str (pe_var hN hv hd hcd) (pps_cons pe_str pe_int (pps_cons pe_str pe_int (pps_cons pe_str pe_int (pps_cons pe_str pe_int (pps_cons pe_str pe_int (pps_cons pe_str (pe_var hN2 hv2 hd2 hcd2) pps_nil))))))) rfl rfl (by simp) (Nat.le_of_ble_eq_true rfl), fun B T ts σ H Q s hl hh hw => ?_⟩
  intro p np
  obtain ⟨F, eF, rd, put, new, own⟩ := hh.view
  obtain ⟨u1, O1, e1, eO1, _, c, ws, e2, e3, e4⟩ := rd _ _ (get_app (hi s))
  obtain ⟨u2, O2, e5, eO2, e6, _⟩ := rd _ _ (get_app (hj s))
  subst e2 e6
  have := allR_int e4
  subst this
  refine ⟨.ref c, get_app' hl e1, .int (g s), get_app' hl e5, upd_same, stV c (.int 0) (.int 0) (.int 0) (.int 0) (.int 0) (.int (g s)), rfl, by show 7 ≤ 15; decide, ?_⟩
  rw [upd_upd]
  refine hw (.ref p) _ (own p _ (aStore ⟨f s, 0, 0, 0, 0, 0, g s⟩) (.ref p) np ⟨p, c, rfl, ?_, e3⟩)
  rfl
/-! ### f(k = e, ..) -/
theorem pe_callK0 {CX : CXT} {k : Nat} {f : Addr} {fd : FuncData} {ps ks : List Str} {sp : Sp} {E : XK} {x : Str} {kws : List Keyword} {tk : TA} {g : List Value → List Value → List Value} {gV : List V → List V → List V}
    (F : FnOk X.prog X.w X.K X.mg X.base CX k f fd ps sp) (hr : Room k X.A) (hg : Gl X x) (hm : X.mg x = some (.ref f)) (hk : PySem.W.keepIn X.K (.ref f) = true) (hb : KBinds X.K fd ps ks g gV) (hx : Passes CX X E)
    (hkw : PK X kws tk) (hall : (backToKw pos (keywordEach kws X.env)).all (·.1.isSome) = true := by rfl) (hks : (backToKw pos (keywordEach kws X.env)).filterMap (·.1) = ks := by rfl)
    (hdb : (x == ("__debug__" : Str)) = false := by decide)
    (hpl : ((backTo pos (starEach [] X.env)).any (·.1) || (backToKw pos (keywordEach kws X.env)).any (·.1.isNone)) = false := by rfl) :
    PE X (.Call (.Name x p) [] kws pos) (tCallK sp gV E tNil tk) := by
  refine ⟨fun pins s σ H Q I h => ?_⟩
  refine wpAny_Call_Name_kw (ld_glob I hg hm ?_ hdb)
  refine PySem.W.callWith_KW0 (h₀ := X.base) I.ok.mod.kin hk hall (thn (hkw.run pos pins s σ H _ I h) fun ws s2 ⟨zs, H2, I2, rz, q2⟩ => ⟨I2.kIn, ?_⟩) hpl
  rw [hks]
  exact run_fnk (us := []) (vs := []) F hr hb hx I2 .nil rz q2
/-- all by keywords, in the parameters' order -/
theorem KBinds.all {K : PySem.W.Frag} {fd : FuncData} {ps : List Str} (h0 : ps ≠ []) (h : ∀ ws : List Value, ws.length = ps.length → bindArgs fd ⟨[], ps.zip ws⟩ = pure (ps.zip ws)) : KBinds K fd ps ps (fun us ws => match us with
    | [] => ws
    | _ => []) (fun vs zs => match vs with
    | [] => zs
    | _ => []) where
  to := fun s us ws hk hl => by
    cases us with
    | nil => exact .of_eq (h ws hl)
    | cons u us =>
      have hl : 0 = ps.length := hl
      have : ps = [] := List.eq_nil_of_length_eq_zero hl.symm
      exact absurd this h0
  rel := fun r1 r2 => by
    cases r1 with
    | nil => exact r2
    | cons _ _ => exact .nil
end
end G

set_option maxHeartbeats 4000000
/-! GH: small things for the printed proofs. -/
namespace G
open PySem PySem.Spec PyProof.Rows L2
section
variable {X : Cx} {W : WX} {S S2 α β γ Ω ξ o : Type} {Γ : S → List As} {e a b : Expr} {ss rest : List Stmt} {pos p p1 p2 : Pos} {P : α → As} {Z : o → Ω → Kd} {Eh : EhT Ω} {π : S → Ω} {K : PySem.W.Frag}
theorem persL_nil : PersL [] := fun A h => by cases h
theorem persL_cons {A : As} {L : List As} [p : Pers A] (h : PersL L) : PersL (A :: L) := fun B hB => by
  cases hB with
  | head => exact p
  | tail _ q => exact h B q
theorem tk0 : Takes X W0 := fun u s' ⟨_, _, _, _, _, _, _, _, _, _, _, _, _, _, _, _, w⟩ => w.elim
theorem hu_of {k : Nat} {A : Around} (r : Room k A) : A.units + 1 < cLine := by have := r.units; omega
theorem co_at {v : V} {A : As} : Co (aAt v A) A := fun K F O o h => h.2
theorem co_trans {A B C : As} (h : Co A B) (k : Co B C) : Co A C := fun K F O o z => k K F O o (h K F O o z)
/-- the context told anew; the state's parts may become values -/
theorem bl_conv {get : S → α} {mk : S → S2} {Γ2 : α → S2 → List As} {k : α → S2 → Rs Ω o} (hk : ∀ a, Bl X W (Γ2 a) ss (k a) Z Eh) (hw : ∀ s, WkL (Γ s) (Γ2 (get s) (mk s))) : Bl X W Γ ss (fun s => k (get s) (mk s)) Z Eh :=
  ⟨tAnyS X ss, pss_any, fun B T ts σ H D s hl hh h => (hk (get s)).any B T ts σ H D (mk s) hl (hh.wk (hw s)) h⟩
/-- a list cut -/
def cutL {α : Type} (a : List α) (lo hi : Option Int) : Option (List α) := some ((a.drop (HT.sIx a.length 0 lo)).take (HT.sIx a.length a.length hi - HT.sIx a.length 0 lo))
theorem o_cutL {Pa : List β → As} {Pb : β → As} (hs : ∀ xs : List β, ∀ {F O o H}, (Pa xs).rep K F O o → Ext F H → Ext O H → ∃ a vs, o = some (.ref a) ∧ SqL K H a vs ∧ AllR K F (xs.map Pb) vs) : Sl1 K (rSlL K) Pa cutL (aL Pb) := by
  intro B L vs H x v lo hi c Q h e q
  cases e
  obtain ⟨F, eF, rd, put, new, own⟩ := h.view
  obtain ⟨o, O, q1, eO, q2⟩ := rd 0 _ rfl
  cases q1
  obtain ⟨a, ws, e1, e2, e3⟩ := hs x q2 eF eO
  cases e1
  refine ⟨a, ws, rfl, e2, fun l nl => q _ _ (own l (.lst (cutV ws lo hi)) (aL Pb ((x.drop (HT.sIx x.length 0 lo)).take (HT.sIx x.length x.length hi - HT.sIx x.length 0 lo))) (.ref l) nl ⟨l, _, rfl, rfl, ?_⟩).drop1⟩
  have hlen := e3.len
  rw [List.length_map] at hlen
  unfold cutV
  rw [← hlen]
  generalize HT.sIx x.length 0 lo = i
  generalize HT.sIx x.length x.length hi - i = j
  have t : ∀ (n : Nat) {L : List As} {vs : List V}, AllR K F L vs → AllR K F (L.take n) (vs.take n) := fun n => by
    induction n with
    | zero => intro L vs _; rw [List.take_zero, List.take_zero]; exact .nil
    | succ n ih => intro L vs h; cases h with
      | nil => exact .nil
      | cons r t => exact .cons r (ih t)
  have d : ∀ (n : Nat) {L : List As} {vs : List V}, AllR K F L vs → AllR K F (L.drop n) (vs.drop n) := fun n => by
    induction n with
    | zero => intro L vs h; exact h
    | succ n ih => intro L vs h; cases h with
      | nil => exact .nil
      | cons r t => exact ih t
  show AllR K F (((x.drop i).take j).map Pb) _
  rw [List.map_take, List.map_drop]
  exact t _ (d _ e3)
end
end G

set_option maxHeartbeats 4000000
/-! GI: more small things for the printed proofs. -/
namespace G
open PySem PySem.Spec PyProof.Rows L2
section
variable {X : Cx} {W : WX} {S S2 α β γ δ Ω ξ o : Type} {Γ : S → List As} {e a b : Expr} {ss rest : List Stmt} {pos p p1 p2 : Pos} {P : α → As} {Z : o → Ω → Kd} {Eh : EhT Ω} {π : S → Ω} {K : PySem.W.Frag}
instance {i j : Int} : Decidable (CMulW i j) := by unfold CMulW; infer_instance
abbrev aP1 (P : α → As) : α × Unit → As := fun z => aTu [P z.1]
abbrev aP2 (P : α → As) (Q : β → As) : α × (β × Unit) → As := fun z => aTu [P z.1, Q z.2.1]
abbrev aP3 (P : α → As) (Q : β → As) (R : γ → As) : α × (β × (γ × Unit)) → As := fun z => aTu [P z.1, Q z.2.1, R z.2.2.1]
abbrev aP4 (P : α → As) (Q : β → As) (R : γ → As) (U : δ → As) : α × (β × (γ × (δ × Unit))) → As := fun z => aTu [P z.1, Q z.2.1, R z.2.2.1, U z.2.2.2.1]
theorem bl_stk : Bl X W Γ ss (fun _ => .st) Z Eh := ⟨tAnyS X ss, pss_any, fun B T ts σ H D s hl hh hw => hw.elim⟩
theorem ehq {mg : Str → Option Value} {K : PySem.W.Frag} {pio : Ω → List As} {iv : List V} {f : S → Ω} : EhP (fun x (s : S) => ehF mg K pio iv x (f s)) := fun _ _ _ _ _ _ _ _ _ _ _ h => h
theorem szl {n : Nat} (h : n ≤ 64) : n ≤ sizeLine := Nat.le_trans h (by rw [sizeLine_eq]; decide)
theorem nonx {A : α → Ω → As} {L : α → Ω → List As} {iv : List V} : NoNx (fun x w => Kd.rt (A x w) (L x w) iv) := fun _ _ _ h => nomatch h
theorem ort {A : α → Ω → As} {L : α → Ω → List As} {iv : List V} : OnlyRt (fun x w => Kd.rt (A x w) (L x w) iv) := fun _ _ => ⟨_, _, _, rfl⟩
theorem un_nil : Unused Γ [] := fun s n hn => by cases hn
theorem un_cons {n : Nat} {vs : List Nat} (h : ∀ s, (Γ s)[n]? = some aNo) (k : Unused Γ vs) : Unused Γ (n :: vs) := fun s m hm A e => by
  cases hm with
  | head => rw [h s] at e; cases e; rfl
  | tail _ q => exact k s m q A e
theorem FunD.kbinds {x qual : Str} {params : Arguments} {body : List Stmt} {scope : Scope} {kws : List (Str × V)} {f : Addr} {fd : FuncData} {ps : List Str} (F : FunD K x qual params body scope [] kws f fd) (h0 : ps ≠ [])
    (h : ∀ (kV doc pm : Value) (an : Option Addr) (cdv ct : Value) (ws : List Value), ws.length = ps.length → bindArgs (PySem.W.fnOf x qual params body scope .none kV doc pm an cdv ct) ⟨[], ps.zip ws⟩ = pure (ps.zip ws)) : KBinds K fd ps ps (fun us ws => match us with
    | [] => ws
    | _ => []) (fun vs zs => match vs with
    | [] => zs
    | _ => []) := by
  obtain ⟨oc, od, dV, kV, doc, pm, an, cdv, ct, osl, rfl, lk, hcd, hD, hK⟩ := F.ex
  rcases hD with ⟨_, rfl⟩ | ⟨e, _⟩
  · exact KBinds.all h0 (h kV doc pm an cdv ct)
  · exact absurd rfl e
theorem run_fnkA {CX : CXT} {k : Nat} {f : Addr} {fd : FuncData} {ps ks : List Str} {sp : Sp} {E : XK} {g : List Value → List Value → List Value} {gV : List V → List V → List V} {pins : List (Addr × Obj)} {σ : L2.St} {H : Hp} {s : Shared} {Q : VK} {us ws : List Value} {vs zs : List V} (F : FnOk X.prog X.w X.K X.mg X.base CX k f fd ps sp) (hr : Room k X.A) (hb : KBinds X.K fd ps ks g gV) (hx : PassesAt CX X σ E)
    (I : Inv X pins σ H s) (r : Vals vs us) (rz : Vals zs ws) (h : sp (gV vs zs) H Q E) : wpAny (model X.prog X.w) X.A (call (.ref f) us (ks.zip ws)) (EP X pins σ Q) X.xe s := by
  have r2 := hb.rel r rz
  have hl : (g us ws).length = ps.length := by rw [← r2.length]; exact F.len _ _ _ _ h
  refine wpAny_call (codeAny_mono (F.run X.A X.stack s H ⟨us, ks.zip ws⟩ (g us ws) (gV vs zs) Q E hr I.env0 (hb.to s us ws I.kIn hl) r2 h) fun r s' hq => ?_)
  cases r with
  | error e => exact hx pins H s e s' I hq
  | ok fl =>
    cases fl with
    | ret u => exact I.after hq
    | next => exact False.elim hq
    | brk => exact False.elim hq
    | cont => exact False.elim hq
theorem pe_callKA {CX : CXT} {k : Nat} {f : Addr} {fd : FuncData} {ps ks : List Str} {sp : Sp} {E : L2.St → XK} {x : Str} {kws : List Keyword} {tk : TA} {g : List Value → List Value → List Value} {gV : List V → List V → List V}
    (F : FnOk X.prog X.w X.K X.mg X.base CX k f fd ps sp) (hr : Room k X.A) (hg : Gl X x) (hm : X.mg x = some (.ref f)) (hk : PySem.W.keepIn X.K (.ref f) = true) (hb : KBinds X.K fd ps ks g gV) (hx : ∀ σ, PassesAt CX X σ (E σ))
    (hkw : PK X kws tk) (hall : (backToKw pos (keywordEach kws X.env)).all (·.1.isSome) = true := by rfl) (hks : (backToKw pos (keywordEach kws X.env)).filterMap (·.1) = ks := by rfl)
    (hdb : (x == ("__debug__" : Str)) = false := by decide)
    (hpl : ((backTo pos (starEach [] X.env)).any (·.1) || (backToKw pos (keywordEach kws X.env)).any (·.1.isNone)) = false := by rfl) :
    PE X (.Call (.Name x p) [] kws pos) (fun σ H Q => tk σ H fun zs H2 => sp (gV [] zs) H2 Q (E σ)) := by
  refine ⟨fun pins s σ H Q I h => ?_⟩
  refine wpAny_Call_Name_kw (ld_glob I hg hm ?_ hdb)
  refine PySem.W.callWith_KW0 (h₀ := X.base) I.ok.mod.kin hk hall (thn (hkw.run pos pins s σ H _ I h) fun ws s2 ⟨zs, H2, I2, rz, q2⟩ => ⟨I2.kIn, ?_⟩) hpl
  rw [hks]
  exact run_fnkA (us := []) (vs := []) F hr hb (hx σ) I2 .nil rz q2
theorem ex_callK1 {k : Nat} {f : Addr} {fd : FuncData} {nm x : Str} {pin : ξ → List As} {pres : β → As} {fm : ξ → Rs Unit β} {kx : α → ξ} {m : M S α} {kp : Pos} {g : List Value → List Value → List Value}
    (F : FnOk X.prog X.w X.K X.mg X.base (L2.CX X.prog X.w) k f fd [nm] (spC X.mg X.K pin [] pres (fun _ => []) fm)) (hr : Room k X.A) (tk : Takes X W) (hm : X.mg x = some (.ref f)) (hk : PySem.W.keepIn X.K (.ref f) = true) (hb : KBinds X.K fd [nm] [nm] g (fun vs zs => match vs with
    | [] => zs
    | _ => []))
    (ha : Ex X W Γ e m P) (hL : ∀ y, pin (kx y) = [P y]) (hg : Gl X x := by rfl) (hdb : (x == ("__debug__" : Str)) = false := by decide)
    (hall : (backToKw pos (keywordEach [⟨some nm, e, kp⟩] X.env)).all (·.1.isSome) = true := by rfl) (hks : (backToKw pos (keywordEach [⟨some nm, e, kp⟩] X.env)).filterMap (·.1) = [nm] := by rfl)
    (hpl : ((backTo pos (starEach [] X.env)).any (·.1) || (backToKw pos (keywordEach [⟨some nm, e, kp⟩] X.env)).any (·.1.isNone)) = false := by rfl) :
    Ex X W Γ (.Call (.Name x p) [] [⟨some nm, e, kp⟩] pos) (m >>= fun y => cpu (fm (kx y))) pres := by
  obtain ⟨t, ht, hr'⟩ := ha
  refine ⟨_, pe_callKA (E := fun σ => WE W σ) F hr hg hm hk hb (fun σ => passAt tk σ) (pk_cons ht pk_nil) hall hks hdb hpl, fun B T ts σ H Q s hl hh hw => ?_⟩
  rw [bind_wp] at hw
  show t σ H _
  refine hr' B T ts σ H _ s hl hh (hw.mono (fun y s1 q v H1 h1 => ?_) fun _ _ q => q)
  obtain ⟨B1, e1, h2, h3⟩ := Hold.split (A1 := [P y]) (v1 := [some v]) h1 rfl
  refine ⟨kx y, B1, e1, by rw [hL y]; exact h2, ?_⟩
  rw [show cpu (fm (kx y)) s1 = (fm (kx y)).put (fun _ => s1) from rfl, Rs.wp_put] at q
  refine q.mono (fun b _ q v H2 h4 => q v H2 ?_) fun ex _ q C d H2 hx => q C d H2 ?_
  · exact h3 [pres b] [some v] H2 h4
  · obtain ⟨e1, c, dx, fs, e2, e3, e4, e5, e6⟩ := hx
    exact ⟨e1, c, dx, fs, e2, e3, e4, h3 [] [] H2 e5, e6⟩
end
end G

set_option maxHeartbeats 4000000
/-! GP: reading mirrors in plain Lean. -/
namespace G
open PySem PySem.Spec PyProof.Rows L2
section
variable {S S2 α β γ Ω o : Type}
theorem ret_wp {a : α} {s : S} {P : α → S → Prop} {R : Exn → S → Prop} : (ret a s).wp P R ↔ P a s := Iff.rfl
theorem ok_wp {a : α} {s : S} {P : α → S → Prop} {R : Exn → S → Prop} : (Rs.ok a s).wp P R ↔ P a s := Iff.rfl
theorem rd_wp {f : S → α} {s : S} {P : α → S → Prop} {R : Exn → S → Prop} : (rd f s).wp P R ↔ P (f s) s := Iff.rfl
theorem cpu_wp {r : Rs Unit β} {s : S} {P : β → S → Prop} {R : Exn → S → Prop} : (cpu r s).wp P R ↔ r.wp (fun b _ => P b s) (fun x _ => R x s) := Rs.wp_put
theorem cio_wp {get : S → Ω} {put : S → Ω → S} {g : Ω → Rs Ω β} {s : S} {P : β → S → Prop} {R : Exn → S → Prop} : (cio get put g s).wp P R ↔ (g (get s)).wp (fun b w => P b (put s w)) (fun x w => R x (put s w)) := Rs.wp_put
theorem ms_wp {f : S → Rs S α} {s : S} {P : α → S → Prop} {R : Exn → S → Prop} : (ms f s).wp P R ↔ (f s).wp P R := Iff.rfl
theorem ite_wp {c : Bool} {m n : M S α} {s : S} {P : α → S → Prop} {R : Exn → S → Prop} : ((if c = true then m else n) s).wp P R ↔ (c = true → (m s).wp P R) ∧ (c = false → (n s).wp P R) := by
  cases c <;> simp
theorem ite_wp' {c : Bool} {m n : S → Rs Ω o} {s : S} {P : o → Ω → Prop} {R : Exn → Ω → Prop} : ((if c = true then m else n) s).wp P R ↔ (c = true → (m s).wp P R) ∧ (c = false → (n s).wp P R) := by
  cases c <;> simp
/-- exact answers -/
theorem ret_ok {a : α} {s : S} : ret a s = .ok a s := rfl
theorem rd_ok {f : S → α} {s : S} : rd f s = .ok (f s) s := rfl
theorem cpu_ok {r : Rs Unit β} {s : S} {b : β} {u : Unit} (h : r = .ok b u) : (cpu r s : Rs S β) = .ok b s := by rw [h]; rfl
theorem lf_some {a : α} {s : S} : (lf (some a) : M S α) s = .ok a s := rfl
theorem bind_ok {m : M S α} {k : α → M S β} {s s' : S} {a : α} (h : m s = .ok a s') : (m >>= k) s = k a s' := by show (m s).bind _ = _; rw [h]; rfl
theorem bdo_ok {π : S → Ω} {m : M S α} {mk : α → S → S2} {k : α → S2 → Rs Ω o} {s s' : S} {a : α} (h : m s = .ok a s') : bdo π m mk k s = k a (mk a s') := by unfold bdo; rw [h]
/-- a comprehension of exact answers -/
theorem mpN_ok {f : α → M S β} {g : α → β} : ∀ {xs : List α} {s : S}, (∀ x ∈ xs, f x s = .ok (g x) s) → mpN f xs s = .ok (xs.map g) s
  | [], s, _ => rfl
  | x :: xs, s, h => by
    unfold mpN
    have h1 := h x (List.mem_cons_self ..)
    have h2 := mpN_ok (xs := xs) (s := s) fun y hy => h y (List.mem_cons_of_mem _ hy)
    first
      | (rw [bind_ok (by show nr (f x) s = _; unfold nr; rw [h1])]; rw [bind_ok h2]; rfl)
theorem mpM_ok {f : α → M S β} {g : α → β} {xs : List α} {s : S} (hz : xs.length ≤ SZ) (h : ∀ x ∈ xs, f x s = .ok (g x) s) : mpM f xs s = .ok (xs.map g) s := by
  unfold mpM
  rw [if_pos hz]
  exact mpN_ok h
/-- a comprehension, told -/
theorem mpN_wp {f : α → M S β} {I : S → Prop} {p : α → β → Prop} {R : Exn → S → Prop} : ∀ {xs : List α} {s : S}, I s → (∀ x ∈ xs, ∀ s, I s → (f x s).wp (fun b s' => p x b ∧ I s') (fun _ _ => False)) → (mpN f xs s).wp (fun bs s' => Paired p xs bs ∧ I s') R
  | [], s, hi, _ => ⟨.nil, hi⟩
  | x :: xs, s, hi, h => by
    unfold mpN
    rw [bind_wp]
    have h1 := h x (List.mem_cons_self ..) s hi
    have h2 : (nr (f x) s).wp (fun b s' => p x b ∧ I s') R := by
      unfold nr
      cases e : f x s with
      | ok a s' => rw [e] at h1; exact h1
      | er x s' => rw [e] at h1; exact h1.elim
      | st => rw [e] at h1; exact h1
    refine h2.mono (fun b s' ⟨hb, hi'⟩ => ?_) fun _ _ q => q
    rw [bind_wp]
    exact (mpN_wp hi' fun y hy => h y (List.mem_cons_of_mem _ hy)).mono (fun bs s'' ⟨h3, h4⟩ => ⟨.cons hb h3, h4⟩) fun _ _ q => q
theorem mpM_wp {f : α → M S β} {I : S → Prop} {p : α → β → Prop} {R : Exn → S → Prop} {xs : List α} {s : S} (hz : xs.length ≤ SZ) (hi : I s) (h : ∀ x ∈ xs, ∀ s, I s → (f x s).wp (fun b s' => p x b ∧ I s') (fun _ _ => False)) : (mpM f xs s).wp (fun bs s' => Paired p xs bs ∧ I s') R := by
  unfold mpM
  rw [if_pos hz]
  exact mpN_wp hi h
/-- loops -/
theorem forN_wp {b : γ → α → S → Rs S γ} {R : Exn → S → Prop} {I : List α → List α → γ → S → Prop} : ∀ {xs ys : List α} {g : γ} {s : S}, I xs ys g s → (∀ xs x ys g s, I xs (x :: ys) g s → (b g x s).wp (fun g' s' => I (xs ++ [x]) ys g' s') R) → (forN b ys g s).wp (fun g' s' => I (xs ++ ys) [] g' s') R
  | xs, [], g, s, h, _ => by rw [List.append_nil]; exact h
  | xs, y :: ys, g, s, h, k => by
    unfold forN
    rw [Rs.wp_bind]
    refine (k xs y ys g s h).mono (fun g' s' h' => ?_) fun _ _ q => q
    have := forN_wp (xs := xs ++ [y]) (ys := ys) h' k
    rw [List.append_assoc] at this
    exact this
end
end G

set_option maxHeartbeats 4000000
/-! GQ: reading mirrors in plain Lean, more. -/
namespace G
open PySem PySem.Spec PyProof.Rows L2
section
variable {S S2 α β γ Ω o : Type}
theorem cl {m : Rs S α} {Q P : α → S → Prop} {R : Exn → S → Prop} (h : m.wp Q R) (k : ∀ a s, Q a s → P a s) : m.wp P R := h.mono k fun _ _ q => q
theorem lfs_wp {a : α} {s : S} {P : α → S → Prop} {R : Exn → S → Prop} : ((lf (some a) : M S α) s).wp P R ↔ P a s := Iff.rfl
theorem lfi_wp {c : Prop} [Decidable c] {a : α} {s : S} {P : α → S → Prop} {R : Exn → S → Prop} : ((lf (if c then some a else none) : M S α) s).wp P R ↔ c ∧ P a s := by
  by_cases h : c
  · rw [if_pos h]; exact ⟨fun q => ⟨h, q⟩, fun q => q.2⟩
  · rw [if_neg h]; exact ⟨fun q => q.elim, fun q => absurd q.1 h⟩
theorem lfx_wp {x : Option α} {a : α} {s : S} {P : α → S → Prop} {R : Exn → S → Prop} (e : x = some a) (h : P a s) : ((lf x : M S α) s).wp P R := by subst e; exact h
theorem st_wp {s : S} {P : α → S → Prop} {R : Exn → S → Prop} : (Rs.st : Rs S α).wp P R ↔ False := Iff.rfl
theorem iti_wp {c : Prop} [Decidable c] {m n : Rs S α} {P : α → S → Prop} {R : Exn → S → Prop} : (if c then m else n).wp P R ↔ (c → m.wp P R) ∧ (¬c → n.wp P R) := by
  by_cases h : c <;> simp [h]
theorem bdo_cut {π : S → Ω} {m : M S α} {mk : α → S → S2} {k : α → S2 → Rs Ω o} {s : S} {P : o → Ω → Prop} {R : Exn → Ω → Prop} {I : α → S2 → Prop}
    (h : (m s).wp (fun a s' => I a (mk a s')) (fun x s' => R x (π s'))) (q : ∀ a s2, I a s2 → (k a s2).wp P R) : (bdo π m mk k s).wp P R := bdo_wp.mpr (h.mono (fun a s' z => q _ _ z) fun _ _ z => z)
theorem wyk_wp {S Ω γ o o2 : Type} {π : S → Ω} {ι : o2 → o} {kr : γ → S → Rs Ω o} {y : Wy γ o2} {s : S} {P : o → Ω → Prop} {R : Exn → Ω → Prop} : (wyk π ι kr y s).wp P R ↔ match y with
    | .nx g => (kr g s).wp P R
    | .go x => P (ι x) (π s) := by cases y <;> exact Iff.rfl
theorem wyk_nx {S Ω γ o o2 : Type} {π : S → Ω} {ι : o2 → o} {kr : γ → S → Rs Ω o} {g : γ} {s : S} {P : o → Ω → Prop} {R : Exn → Ω → Prop} : (wyk π ι kr (.nx g) s).wp P R ↔ (kr g s).wp P R := Iff.rfl
theorem wyk_go {S Ω γ o o2 : Type} {π : S → Ω} {ι : o2 → o} {kr : γ → S → Rs Ω o} {x : o2} {s : S} {P : o → Ω → Prop} {R : Exn → Ω → Prop} : (wyk π ι kr (.go x) s).wp P R ↔ P (ι x) (π s) := Iff.rfl
theorem mpo_wp {S Ω o o2 : Type} {ι : o2 → o} {m : S → Rs Ω o2} {s : S} {P : o → Ω → Prop} {R : Exn → Ω → Prop} : (mpo ι m s).wp P R ↔ (m s).wp (fun a w => P (ι a) w) R := Rs.wp_map
theorem sureR_wp {x : α} {k : α → S → Rs Ω o} {s : S} {P : o → Ω → Prop} {R : Exn → Ω → Prop} (h : (k x s).wp P R) : (sureR (some x) k s).wp P R := h
/-- the same where a part's type stands unfolded -/
theorem bdo_wpF {π : S → Ω} {m : S → Rs S α} {mk : α → S → S2} {k : α → S2 → Rs Ω o} {s : S} {P : o → Ω → Prop} {R : Exn → Ω → Prop} : (@bdo S S2 Ω α o π m mk k s).wp P R ↔ (m s).wp (fun a s' => (k a (mk a s')).wp P R) (fun x s' => R x (π s')) := bdo_wp
theorem ite_wpF {c : Prop} {_ : Decidable c} {m n : S → Rs S o} {s : S} {P : o → S → Prop} {R : Exn → S → Prop} : ((@ite (M S o) c _ m n) s).wp P R ↔ (c → (m s).wp P R) ∧ (¬c → (n s).wp P R) := by by_cases h : c <;> simp [h]
theorem ite_wpG {c : Prop} {_ : Decidable c} {m n : S → Rs Ω o} {s : S} {P : o → Ω → Prop} {R : Exn → Ω → Prop} : ((if c then m else n) s).wp P R ↔ (c → (m s).wp P R) ∧ (¬c → (n s).wp P R) := by by_cases h : c <;> simp [h]
theorem ite_wpM {c : Prop} {_ : Decidable c} {m n : M S o} {s : S} {P : o → S → Prop} {R : Exn → S → Prop} : ((if c then m else n) s).wp P R ↔ (c → (m s).wp P R) ∧ (¬c → (n s).wp P R) := by by_cases h : c <;> simp [h]
theorem itM {c : Prop} {_ : Decidable c} {m n : M S α} {s : S} : (if c then m else n) s = if c then m s else n s := by by_cases h : c <;> simp [h]
theorem itG {c : Prop} {_ : Decidable c} {m n : S → Rs Ω o} {s : S} : (if c then m else n) s = if c then m s else n s := by by_cases h : c <;> simp [h]
theorem itF {c : Prop} {_ : Decidable c} {m n : S → Rs S o} {s : S} : (@ite (M S o) c _ m n) s = if c then m s else n s := by by_cases h : c <;> simp [h]
theorem bdo_eqF (π : S → Ω) (m : S → Rs S α) (mk : α → S → S2) (k : α → S2 → Rs Ω o) (s : S) : @bdo S S2 Ω α o π m mk k s = match m s with
  | .ok a s' => k a (mk a s')
  | .er x s' => .er x (π s')
  | .st => .st := rfl
/-- an answer without an exception -/
theorem wp_ex {m : Rs S α} {P : α → S → Prop} (h : m.wp P fun _ _ => False) : ∃ a s, m = .ok a s ∧ P a s := by
  cases m with
  | ok a s => exact ⟨a, s, rfl, h⟩
  | er x s => exact h.elim
  | st => exact h.elim
theorem wp_of {m : Rs S α} {P : α → S → Prop} {R : Exn → S → Prop} {a : α} {s : S} (e : m = .ok a s) (h : P a s) : m.wp P R := by subst e; exact h
/-- a loop with ways out: I at each turn's start, E behind its end, G where it goes -/
theorem forL_wp {b : γ → α → S → Rs S (Lp γ o)} {R : Exn → S → Prop} {I : List α → List α → γ → S → Prop} {P : Wy γ o → S → Prop} : ∀ {xs ys : List α} {g : γ} {s : S}, I xs ys g s →
    (∀ xs x ys g s, I xs (x :: ys) g s → (b g x s).wp (fun r s' => match r with
      | .nx g' => I (xs ++ [x]) ys g' s'
      | .ct g' => I (xs ++ [x]) ys g' s'
      | .bk g' => P (.nx g') s'
      | .go y => P (.go y) s') R) → (∀ zs g s, I zs [] g s → P (.nx g) s) → (forL b ys g s).wp P R
  | xs, [], g, s, h, _, e => e _ _ _ h
  | xs, y :: ys, g, s, h, k, e => by
    unfold forL
    rw [Rs.wp_bind]
    refine (k xs y ys g s h).mono (fun r s' h' => ?_) fun _ _ q => q
    cases r with
    | nx g' => exact forL_wp (xs := xs ++ [y]) (ys := ys) h' k e
    | ct g' => exact forL_wp (xs := xs ++ [y]) (ys := ys) h' k e
    | bk g' => exact h'
    | go y => exact h'
/-- a loop of which no turn leaves -/
theorem forL_inv {b : γ → α → S → Rs S (Lp γ o)} {R : Exn → S → Prop} {I : γ → S → Prop} {P : Wy γ o → S → Prop} {ys : List α} {g : γ} {s : S} (h : I g s) (k : ∀ x ∈ ys, ∀ g s, I g s → (b g x s).wp (fun r s' => ∃ g', r = .nx g' ∧ I g' s') R) (e : ∀ g s, I g s → P (.nx g) s) : (forL b ys g s).wp P R := by
  refine forL_wp (I := fun a c g s => a ++ c = ys ∧ I g s) (xs := []) ⟨rfl, h⟩ (fun a x c g s ⟨e1, h1⟩ => ?_) fun _ _ _ ⟨_, h⟩ => e _ _ h
  refine (k x (by rw [← e1]; simp) g s h1).mono (fun r s' ⟨g', e2, h2⟩ => ?_) fun _ _ q => q
  subst e2
  exact ⟨by rw [← e1]; simp, h2⟩
theorem forN_inv {b : γ → α → S → Rs S γ} {R : Exn → S → Prop} {I : γ → S → Prop} {ys : List α} {g : γ} {s : S} (h : I g s) (k : ∀ x ∈ ys, ∀ g s, I g s → (b g x s).wp I R) : (forN b ys g s).wp I R := by
  refine (forN_wp (I := fun a c g s => a ++ c = ys ∧ I g s) (xs := []) ⟨rfl, h⟩ fun a x c g s ⟨e1, h1⟩ => ?_).mono (fun g s h => h.2) fun _ _ q => q
  exact (k x (by rw [← e1]; simp) g s h1).mono (fun g' s' h2 => ⟨by rw [← e1]; simp, h2⟩) fun _ _ q => q
/-- while, told -/
theorem whL_wp {c : γ → S → Rs S Bool} {b : γ → S → Rs S (Lp γ o)} {R : Exn → S → Prop} {I : γ → S → Prop} {μ : γ → S → Nat} {P : Wy γ o → S → Prop}
    (k : ∀ g s, I g s → (c g s).wp (fun t s' => if t = true then (b g s').wp (fun r s'' => match r with
      | .nx g' => I g' s'' ∧ μ g' s'' < μ g s
      | .ct g' => I g' s'' ∧ μ g' s'' < μ g s
      | .bk g' => P (.nx g') s''
      | .go y => P (.go y) s'') R else P (.nx g) s') R) : ∀ {n : Nat} {g : γ} {s : S}, I g s → μ g s < n → (whL c b n g s).wp P R
  | 0, g, s, _, h => absurd h (Nat.not_lt_zero _)
  | n + 1, g, s, hi, h => by
    unfold whL
    rw [Rs.wp_bind]
    refine (k g s hi).mono (fun t s' h' => ?_) fun _ _ q => q
    by_cases ht : t = true
    · rw [if_pos ht] at h' ⊢
      rw [Rs.wp_bind]
      refine h'.mono (fun r s'' h2 => ?_) fun _ _ q => q
      cases r with
      | nx g' => exact whL_wp k h2.1 (by omega)
      | ct g' => exact whL_wp k h2.1 (by omega)
      | bk g' => exact h2
      | go y => exact h2
    · rw [if_neg ht] at h' ⊢; exact h'
end
/-! ### values -/
theorem atI_at {α : Type} {xs : List α} {i : Int} (h0 : 0 ≤ i) (h1 : i < xs.length) : ∃ x, atI xs i = some x ∧ x ∈ xs := by
  have hn : ixN xs.length i = some i.toNat := by unfold ixN; rw [if_pos h0, if_pos (by omega)]
  have hl : i.toNat < xs.length := by omega
  exact ⟨xs[i.toNat], by unfold atI; rw [hn]; simp [hl], List.getElem_mem _⟩
theorem ixT_at {t : Tx} {i : Int} (hz : t.length ≤ SZ) (h0 : 0 ≤ i) (h1 : i < t.length) : ∃ c, ixT t i = some [c] ∧ c ∈ t := by
  obtain ⟨c, e, h⟩ := atI_at h0 h1
  exact ⟨c, by unfold ixT; rw [if_pos hz, e]; rfl, h⟩
theorem joinL_le {a : Tx} {B : Nat} : ∀ {ys : List Tx}, (∀ t ∈ ys, t.length ≤ B) → (TL.joinL a ys).length ≤ ys.length * (B + a.length)
  | [], _ => Nat.zero_le _
  | [p], h => by
    have := h p (List.mem_cons_self ..)
    show p.length ≤ 1 * _
    omega
  | p :: q :: r, h => by
    have h1 := h p (List.mem_cons_self ..)
    have h2 := joinL_le (a := a) (B := B) (ys := q :: r) fun t ht => h t (List.mem_cons_of_mem _ ht)
    show (p ++ (a ++ TL.joinL a (q :: r))).length ≤ ((q :: r).length + 1) * _
    rw [List.length_append, List.length_append, Nat.add_mul]
    omega
theorem sum_le {B : Nat} : ∀ {ys : List Tx}, (∀ t ∈ ys, t.length ≤ B) → (ys.map List.length).sum ≤ ys.length * B
  | [], _ => Nat.zero_le _
  | p :: r, h => by
    have h1 := h p (List.mem_cons_self ..)
    have h2 := sum_le (B := B) (ys := r) fun t ht => h t (List.mem_cons_of_mem _ ht)
    rw [List.map_cons, List.sum_cons, List.length_cons, Nat.add_mul]
    omega
theorem joinT_le {a : Tx} {B n : Nat} {ys : List Tx} (h : ∀ t ∈ ys, t.length ≤ B) (hn : ys.length ≤ n) (hz : n * (B + a.length) ≤ SZ) : ∃ r, joinT a ys = some r ∧ r.length ≤ n * (B + a.length) := by
  have h1 := joinL_le (a := a) h
  have h2 := sum_le h
  have h3 : ys.length * (B + a.length) ≤ n * (B + a.length) := Nat.mul_le_mul_right _ hn
  rw [Nat.mul_add] at h3
  refine ⟨TL.joinL a ys, ?_, by rw [← Nat.mul_add] at h3; omega⟩
  unfold joinT
  rw [if_pos (by omega)]
theorem rng1_ok {j : Int} (h : j < 4611686018427387904) (h0 : 0 ≤ j) : rng1 j = some (rng 0 j) := by
  unfold rng1
  rw [if_pos ⟨by omega, by omega⟩]
theorem rng_len (j : Int) : (rng 0 j).length = j.toNat := by simp [rng]
theorem rng_mem {j x : Int} (h : x ∈ rng 0 j) : 0 ≤ x ∧ x < j := by
  simp only [rng, List.mem_map, List.mem_range] at h
  obtain ⟨k, h1, rfl⟩ := h
  omega
theorem Paired.all {α β : Type} {p : α → β → Prop} {q : β → Prop} (h : ∀ x y, p x y → q y) : ∀ {xs : List α} {ys : List β}, Paired p xs ys → ∀ y ∈ ys, q y
  | _, _, .nil, y, hy => by cases hy
  | _, _, .cons a t, y, hy => by
    rcases List.mem_cons.mp hy with rfl | hy
    · exact h _ _ a
    · exact Paired.all h t y hy
theorem cutT_le {a : Tx} {lo hi : Option Int} (hz : a.length ≤ SZ) : ∃ r, cutT a lo hi = some r ∧ r.length ≤ a.length := by
  refine ⟨_, by unfold cutT; rw [if_pos hz], ?_⟩
  rw [List.length_take, List.length_drop]
  omega
theorem catT_ok {a b : Tx} (h : a.length + b.length ≤ SZ) : catT a b = some (a ++ b) := by unfold catT; rw [if_pos h]
theorem flat_len {a : Tx} : ∀ n : Nat, (List.replicate n a).flatten.length = n * a.length
  | 0 => by simp
  | n + 1 => by rw [List.replicate_succ, List.flatten_cons, List.length_append, flat_len n, Nat.add_mul]; omega
theorem repT_ok {a : Tx} {n : Int} (h0 : 0 ≤ n) (h1 : n < 9223372036854775808) (hz : a.length * n.toNat ≤ SZ) : ∃ r, repT a n = some r ∧ r.length = a.length * n.toNat := by
  refine ⟨_, by unfold repT; rw [if_pos ⟨by omega, by omega, hz⟩], ?_⟩
  rw [flat_len, Nat.mul_comm]
theorem lenT_wp {S : Type} {t : Tx} {s : S} {P : Int → S → Prop} {R : Exn → S → Prop} : ((lf (lenT t) : M S Int) s).wp P R ↔ t.length ≤ SZ ∧ P (t.length : Int) s := lfi_wp
theorem ixM_wp {S α : Type} {get : S → List α} {a : α} {j : Int} {s : S} {P : α × Nat → S → Prop} {R : Exn → S → Prop} (h0 : 0 ≤ j) (h1 : j < (get s).length) (h : P (a, j.toNat) s) : (ixM get a j s).wp P R := by
  have hn : ixN (get s).length j = some j.toNat := by unfold ixN; rw [if_pos h0, if_pos (by omega)]
  unfold ixM
  rw [hn]
  exact h
end G

set_option maxHeartbeats 4000000
/-! GX: a law's end: the def's promise, told by its mirror, answers True. -/
namespace G
open PySem PySem.Spec PyProof.Rows L2
theorem cx_none {P : Program} {w : World} {H : Hp} {s : Shared} {e : Value} {s' : Shared} (h : L2.CX P w [] H s (fun _ _ _ => False) e s') : False := by
  obtain ⟨_, _, _, _, _, _, _, _, _, _, _, _, z⟩ := h
  exact z
theorem allR_ints {K : PySem.W.Frag} {F : Hp} : ∀ ns : List Int, AllR K F (ns.map aInt) (ns.map V.int)
  | [] => .nil
  | _ :: ns => .cons ⟨rfl, rfl⟩ (allR_ints ns)
/-- a law: F gives the written part, the function object, the mirror, and that the mirror says True -/
theorem walk_ofG {l : PySem.W.OpenLaw} {n k : Nat} {q : Program} {loose : List Str} {XP : (Str → Option Value) → Heap → Prop} {YP : World → Heap → Prop} {d : DefRec} {x : Str}
    (hn : l.most = some n) (hn2 : n ≤ sizeLine) (hdf : d.params.defaults = []) (hr : Room k callerA)
    (F : ∀ (w : World) (mg : Str → Option Value) (fa : Addr) (h : Heap), YP w h → h.Ns mainGlobals mg → mg d.name = some (.ref fa) →
      ∃ (K : PySem.W.Frag) (fd : FuncData) (f : (List Int × Unit) → Rs Unit Bool), K.In h ∧ (∀ (s : Shared) (u : Value), BindsTo s fd ⟨[u], []⟩ [(x, u)]) ∧
        (∀ ns : List Int, ns.length ≤ n → (∀ z ∈ ns, Builtin.Int.intBits z ≤ 1048576) → f (ns, ()) = .ok true ()) ∧
        ∀ base : Heap, K.In base → base.Ns mainGlobals mg → FnOk l.prog w K mg base (L2.CX l.prog w) k fa fd [x] (spC mg K (fun y : (List Int × Unit) => [(aF aInt) y.1]) [] aBl (fun _ => []) f)) :
    PySem.W.WalkO q loose XP YP l.row.toRowW d [] (fun f vs => PySem.call f vs) := by
  refine Att.attach_callB hn hdf fun w s₀ s₁ mg mb fa o pm cd doc a vs ns G Y ho hd hcd hmg hobj hints hlen hbits hg => ?_
  obtain ⟨K, fd, f, KX, hb, hf, hF⟩ := F w mg fa _ Y G.T.g hmg
  refine law_call KX G.T.g G.T.b G.T.builtins G.T.nolimit hg hobj hints (Nat.le_trans hlen hn2) hr hF hb (fun H hO hS => ?_) fun H e s' => cx_none
  refine ⟨(ns, ()), ⟨H, H, emp⟩, rfl, ?_, ?_⟩
  · refine ⟨⟨H, fun _ => emp, Ext.refl _, fun a o e z => (by have z : H a = none := z; rw [e] at z; cases z), Ext.refl _, fun _ => Ext.e _, fun _ => Dis.e _, fun _ _ _ => Dis.e _, fun i a o e => (by cases e), fun i A e => ?_⟩, fun a o e _ => e, fun a o e => ⟨o, e⟩, rfl⟩
    cases i with
    | zero =>
      cases e
      exact ⟨some (.ref a), rfl, rfl, a, ns.map V.int, rfl, hS, allR_ints ns⟩
    | succ i => simp at e
  · show Rs.wp (f (ns, ())) _ _
    rw [hf ns hlen hbits]
    intro v H' h
    exact Option.some.inj h.v0
end G

set_option maxHeartbeats 4000000
namespace K
open PySem PySem.Spec PyProof.Rows L2 G
def top (i : Nat) : Stmt := PySem.Challenge.pw_sheetsmet_k00_names_words_and_tails.main.body.getD i (.Pass ⟨0, 0, 0, 0⟩)
abbrev FnP (K : PySem.W.Frag) (x : Str) (st : Stmt) (f : Addr) (fd : FuncData) : Prop := FunD K x x (defArgs st) (defBody st) (defScope st) [] [] f fd
abbrev s5 : Stmt := top 5
abbrev s6 : Stmt := top 6
abbrev s7 : Stmt := top 7
abbrev s8 : Stmt := top 8
abbrev s9 : Stmt := top 9
abbrev s10 : Stmt := top 10
abbrev s11 : Stmt := top 11
abbrev s12 : Stmt := top 12
abbrev s13 : Stmt := top 13
abbrev s15 : Stmt := top 15
abbrev s16 : Stmt := top 16
abbrev s17 : Stmt := top 17
abbrev s18 : Stmt := top 18
abbrev s19 : Stmt := top 19
abbrev s20 : Stmt := top 20
abbrev s21 : Stmt := top 21
abbrev s22 : Stmt := top 22
abbrev s23 : Stmt := top 23
abbrev s24 : Stmt := top 24
abbrev s25 : Stmt := top 25
abbrev s26 : Stmt := top 26
abbrev s27 : Stmt := top 27
abbrev s28 : Stmt := top 28
abbrev s29 : Stmt := top 29
abbrev s30 : Stmt := top 30
abbrev s31 : Stmt := top 31
abbrev s32 : Stmt := top 32
abbrev s33 : Stmt := top 33
abbrev s34 : Stmt := top 34
structure Txt (K : PySem.W.Frag) (mg : Str → Option Value) : Prop where
  g_is_letter : mg "is_letter" = some (.ref (He.ga K "is_letter"))
  F_is_letter : ∃ fd, FnP K "is_letter" s5 (He.ga K "is_letter") fd
  g_is_digit : mg "is_digit" = some (.ref (He.ga K "is_digit"))
  F_is_digit : ∃ fd, FnP K "is_digit" s6 (He.ga K "is_digit") fd
  g_is_name_sign : mg "is_name_sign" = some (.ref (He.ga K "is_name_sign"))
  F_is_name_sign : ∃ fd, FnP K "is_name_sign" s7 (He.ga K "is_name_sign") fd
  g_has_name_form : mg "has_name_form" = some (.ref (He.ga K "has_name_form"))
  F_has_name_form : ∃ fd, FnP K "has_name_form" s8 (He.ga K "has_name_form") fd
  g_is_name : mg "is_name" = some (.ref (He.ga K "is_name"))
  F_is_name : ∃ fd, FnP K "is_name" s9 (He.ga K "is_name") fd
  g_is_word : mg "is_word" = some (.ref (He.ga K "is_word"))
  F_is_word : ∃ fd, FnP K "is_word" s10 (He.ga K "is_word") fd
  g_is_tail : mg "is_tail" = some (.ref (He.ga K "is_tail"))
  F_is_tail : ∃ fd, FnP K "is_tail" s11 (He.ga K "is_tail") fd
  g_is_reading_name : mg "is_reading_name" = some (.ref (He.ga K "is_reading_name"))
  F_is_reading_name : ∃ fd, FnP K "is_reading_name" s12 (He.ga K "is_reading_name") fd
  g_first_bad_name : mg "first_bad_name" = some (.ref (He.ga K "first_bad_name"))
  F_first_bad_name : ∃ fd, FnP K "first_bad_name" s13 (He.ga K "first_bad_name") fd
  g__law_mixed : mg "_law_mixed" = some (.ref (He.ga K "_law_mixed"))
  F__law_mixed : ∃ fd, FnP K "_law_mixed" s15 (He.ga K "_law_mixed") fd
  g__law_store : mg "_law_store" = some (.ref (He.ga K "_law_store"))
  F__law_store : ∃ fd, FnP K "_law_store" s16 (He.ga K "_law_store") fd
  g__law_take : mg "_law_take" = some (.ref (He.ga K "_law_take"))
  F__law_take : ∃ fd, FnP K "_law_take" s17 (He.ga K "_law_take") fd
  g__law_pick : mg "_law_pick" = some (.ref (He.ga K "_law_pick"))
  F__law_pick : ∃ fd, FnP K "_law_pick" s18 (He.ga K "_law_pick") fd
  g__law_edge : mg "_law_edge" = some (.ref (He.ga K "_law_edge"))
  F__law_edge : ∃ fd, FnP K "_law_edge" s19 (He.ga K "_law_edge") fd
  g__law_text : mg "_law_text" = some (.ref (He.ga K "_law_text"))
  F__law_text : ∃ fd, FnP K "_law_text" s20 (He.ga K "_law_text") fd
  g__law_run : mg "_law_run" = some (.ref (He.ga K "_law_run"))
  F__law_run : ∃ fd, FnP K "_law_run" s21 (He.ga K "_law_run") fd
  g__law_bad_name : mg "_law_bad_name" = some (.ref (He.ga K "_law_bad_name"))
  F__law_bad_name : ∃ fd, FnP K "_law_bad_name" s22 (He.ga K "_law_bad_name") fd
  g__law_near_name : mg "_law_near_name" = some (.ref (He.ga K "_law_near_name"))
  F__law_near_name : ∃ fd, FnP K "_law_near_name" s23 (He.ga K "_law_near_name") fd
  g__law_is_run : mg "_law_is_run" = some (.ref (He.ga K "_law_is_run"))
  F__law_is_run : ∃ fd, FnP K "_law_is_run" s24 (He.ga K "_law_is_run") fd
  g__law_is_tail : mg "_law_is_tail" = some (.ref (He.ga K "_law_is_tail"))
  F__law_is_tail : ∃ fd, FnP K "_law_is_tail" s25 (He.ga K "_law_is_tail") fd
  g__law_is_reading_name : mg "_law_is_reading_name" = some (.ref (He.ga K "_law_is_reading_name"))
  F__law_is_reading_name : ∃ fd, FnP K "_law_is_reading_name" s26 (He.ga K "_law_is_reading_name") fd
  g__law_is_whole : mg "_law_is_whole" = some (.ref (He.ga K "_law_is_whole"))
  F__law_is_whole : ∃ fd, FnP K "_law_is_whole" s27 (He.ga K "_law_is_whole") fd
  g__law_same : mg "_law_same" = some (.ref (He.ga K "_law_same"))
  F__law_same : ∃ fd, FnP K "_law_same" s28 (He.ga K "_law_same") fd
  g__law_four_due : mg "_law_four_due" = some (.ref (He.ga K "_law_four_due"))
  F__law_four_due : ∃ fd, FnP K "_law_four_due" s29 (He.ga K "_law_four_due") fd
  g__law_four_told : mg "_law_four_told" = some (.ref (He.ga K "_law_four_told"))
  F__law_four_told : ∃ fd, FnP K "_law_four_told" s30 (He.ga K "_law_four_told") fd
  g__law_many_texts : mg "_law_many_texts" = some (.ref (He.ga K "_law_many_texts"))
  F__law_many_texts : ∃ fd, FnP K "_law_many_texts" s31 (He.ga K "_law_many_texts") fd
  g__law_row_of_names : mg "_law_row_of_names" = some (.ref (He.ga K "_law_row_of_names"))
  F__law_row_of_names : ∃ fd, FnP K "_law_row_of_names" s32 (He.ga K "_law_row_of_names") fd
  g__law_first_due : mg "_law_first_due" = some (.ref (He.ga K "_law_first_due"))
  F__law_first_due : ∃ fd, FnP K "_law_first_due" s33 (He.ga K "_law_first_due") fd
  g_law : mg "law" = some (.ref (He.ga K "law"))
  F_law : ∃ fd, FnP K "law" s34 (He.ga K "law") fd
  i_NAME_MOST : ∃ t, mg "NAME_MOST" = some (.int 12 t)
  i_WORD_MOST : ∃ t, mg "WORD_MOST" = some (.int 40 t)
  i_TAIL_MOST : ∃ t, mg "TAIL_MOST" = some (.int 6 t)
  i_PARTS_MOST : ∃ t, mg "PARTS_MOST" = some (.int 4 t)
  n_abs : mg "abs" = none
  n_all : mg "all" = none
  n_bool : mg "bool" = none
  n_dict : mg "dict" = none
  n_int : mg "int" = none
  n_isinstance : mg "isinstance" = none
  n_len : mg "len" = none
  n_list : mg "list" = none
  n_max : mg "max" = none
  n_range : mg "range" = none
  n_sorted : mg "sorted" = none
  n_str : mg "str" = none
  n_tuple : mg "tuple" = none
section
variable {Pg : Program} {w : World} {K : PySem.W.Frag} {mg : Str → Option Value} {base : Heap}
def m_is_letter (p_sign : Tx) : M Unit Bool := (bdo (fun s => s) (((((rd fun _ => p_sign) >>= fun x => (ret ()) >>= fun y => ret (x, y)) >>= fun y => lf (lenT y.1)) >>= fun x => (ret (1 : Int)) >>= fun y => lf (some (decide (x = y)))) >>= fun c => if c = true then ((ret (tx "a")) >>= fun x => (rd fun _ => p_sign) >>= fun y => lf (some (!decide (y < x))) >>= fun k => if k = true then (ret (tx "z")) >>= fun z => lf (some (!decide (z < y))) else ret false) else ret false) (fun _ s => s) fun a s => .ok a (s))
abbrev N_is_letter : List Str := ["sign"]
theorem Sc_is_letter : FnScope N_is_letter ["sign"] (defScope s5) := ⟨rfl, rfl, rfl, by decide +kernel, rfl, by decide +kernel, by decide +kernel⟩
theorem bo_is_letter (T : Txt K mg) {cdv : Value} {A : Around} {outer : List Env} {s0 : Shared} {H0 : Hp} {E : XK} (hr : Room 0 (Cb Pg w K mg base N_is_letter "is_letter" (defScope s5) (He.ga K "is_letter") cdv A outer s0 H0 E).A) (tk : Takes (Cb Pg w K mg base N_is_letter "is_letter" (defScope s5) (He.ga K "is_letter") cdv A outer s0 H0 E) (WF E)) (hp : PassesOwn (model Pg w) (Cb Pg w K mg base N_is_letter "is_letter" (defScope s5) (He.ga K "is_letter") cdv A outer s0 H0 E).A (Cb Pg w K mg base N_is_letter "is_letter" (defScope s5) (He.ga K "is_letter") cdv A outer s0 H0 E).env (Cb Pg w K mg base N_is_letter "is_letter" (defScope s5) (He.ga K "is_letter") cdv A outer s0 H0 E).xe) (p_sign : Tx) :
    Bl (Cb Pg w K mg base N_is_letter "is_letter" (defScope s5) (He.ga K "is_letter") cdv A outer s0 H0 E) (WF E) (fun (s : Unit) => [aStr p_sign]) (defBody s5) (m_is_letter p_sign) (fun b _ => .rt (aBl b) [] []) (ehF mg K (fun _ => []) []) :=
  (by refine (bl_ret (g := fun a => a) ?_ eh0 io0 (fun _ _ => rfl)); (refine (ex_and ?_ ?_); (refine (ex_cmp op_eq o_eqI ?_ ex_int); (refine (ex_callB call_len_str b_lenT T.n_len ?_); (refine (ea_cons (P := aStr) (Lb := (fun z : Unit => [])) ?_ ea_nil); (exact (ex_var (P := aStr) (f := fun _ => p_sign) 0 (fun _ => rfl)))))); (refine (ex_one ?_); (refine (ex_chain op_le_str op_le_str o_leT o_leT ex_str ?_ ex_str); (exact (ex_var (P := aStr) (f := fun _ => p_sign) 0 (fun _ => rfl)))))))
theorem ok_is_letter (T : Txt K mg) : FnOk Pg w K mg base (L2.CX Pg w) 1 (He.ga K "is_letter") (T.F_is_letter).choose ["sign"] (spC mg K (fun y : (Tx × Unit) => [aStr y.1]) [] aBl (fun _ => []) fun y => m_is_letter y.1 ()) :=
  fn0 (pin := fun y : (Tx × Unit) => [aStr y.1]) (m := fun y => m_is_letter y.1) (Γ := fun y (s : Unit) => [aStr y.1]) (T.F_is_letter).choose_spec Sc_is_letter (fun _ => rfl) (fun _ => rfl) fun cdv A outer s H E hr tk hp y => bo_is_letter T hr tk hp y.1
theorem b_is_letter (T : Txt K mg) : Binds K (T.F_is_letter).choose ["sign"] [] := FunD.bindsN (T.F_is_letter).choose_spec fun _ _ _ _ _ _ us hl => match us, hl with | [_], _ => rfl
theorem Txt.kp_is_letter (T : Txt K mg) : PySem.W.keepIn K (.ref (He.ga K "is_letter")) = true := (T.F_is_letter).choose_spec.kp
def m_is_digit (p_sign : Tx) : M Unit Bool := (bdo (fun s => s) (((((rd fun _ => p_sign) >>= fun x => (ret ()) >>= fun y => ret (x, y)) >>= fun y => lf (lenT y.1)) >>= fun x => (ret (1 : Int)) >>= fun y => lf (some (decide (x = y)))) >>= fun c => if c = true then ((ret (tx "0")) >>= fun x => (rd fun _ => p_sign) >>= fun y => lf (some (!decide (y < x))) >>= fun k => if k = true then (ret (tx "9")) >>= fun z => lf (some (!decide (z < y))) else ret false) else ret false) (fun _ s => s) fun a s => .ok a (s))
abbrev N_is_digit : List Str := ["sign"]
theorem Sc_is_digit : FnScope N_is_digit ["sign"] (defScope s6) := ⟨rfl, rfl, rfl, by decide +kernel, rfl, by decide +kernel, by decide +kernel⟩
theorem bo_is_digit (T : Txt K mg) {cdv : Value} {A : Around} {outer : List Env} {s0 : Shared} {H0 : Hp} {E : XK} (hr : Room 0 (Cb Pg w K mg base N_is_digit "is_digit" (defScope s6) (He.ga K "is_digit") cdv A outer s0 H0 E).A) (tk : Takes (Cb Pg w K mg base N_is_digit "is_digit" (defScope s6) (He.ga K "is_digit") cdv A outer s0 H0 E) (WF E)) (hp : PassesOwn (model Pg w) (Cb Pg w K mg base N_is_digit "is_digit" (defScope s6) (He.ga K "is_digit") cdv A outer s0 H0 E).A (Cb Pg w K mg base N_is_digit "is_digit" (defScope s6) (He.ga K "is_digit") cdv A outer s0 H0 E).env (Cb Pg w K mg base N_is_digit "is_digit" (defScope s6) (He.ga K "is_digit") cdv A outer s0 H0 E).xe) (p_sign : Tx) :
    Bl (Cb Pg w K mg base N_is_digit "is_digit" (defScope s6) (He.ga K "is_digit") cdv A outer s0 H0 E) (WF E) (fun (s : Unit) => [aStr p_sign]) (defBody s6) (m_is_digit p_sign) (fun b _ => .rt (aBl b) [] []) (ehF mg K (fun _ => []) []) :=
  (by refine (bl_ret (g := fun a => a) ?_ eh0 io0 (fun _ _ => rfl)); (refine (ex_and ?_ ?_); (refine (ex_cmp op_eq o_eqI ?_ ex_int); (refine (ex_callB call_len_str b_lenT T.n_len ?_); (refine (ea_cons (P := aStr) (Lb := (fun z : Unit => [])) ?_ ea_nil); (exact (ex_var (P := aStr) (f := fun _ => p_sign) 0 (fun _ => rfl)))))); (refine (ex_one ?_); (refine (ex_chain op_le_str op_le_str o_leT o_leT ex_str ?_ ex_str); (exact (ex_var (P := aStr) (f := fun _ => p_sign) 0 (fun _ => rfl)))))))
theorem ok_is_digit (T : Txt K mg) : FnOk Pg w K mg base (L2.CX Pg w) 1 (He.ga K "is_digit") (T.F_is_digit).choose ["sign"] (spC mg K (fun y : (Tx × Unit) => [aStr y.1]) [] aBl (fun _ => []) fun y => m_is_digit y.1 ()) :=
  fn0 (pin := fun y : (Tx × Unit) => [aStr y.1]) (m := fun y => m_is_digit y.1) (Γ := fun y (s : Unit) => [aStr y.1]) (T.F_is_digit).choose_spec Sc_is_digit (fun _ => rfl) (fun _ => rfl) fun cdv A outer s H E hr tk hp y => bo_is_digit T hr tk hp y.1
theorem b_is_digit (T : Txt K mg) : Binds K (T.F_is_digit).choose ["sign"] [] := FunD.bindsN (T.F_is_digit).choose_spec fun _ _ _ _ _ _ us hl => match us, hl with | [_], _ => rfl
theorem Txt.kp_is_digit (T : Txt K mg) : PySem.W.keepIn K (.ref (He.ga K "is_digit")) = true := (T.F_is_digit).choose_spec.kp
def m_is_name_sign (p_sign : Tx) : M Unit Bool := (bdo (fun s => s) ((((rd fun _ => p_sign) >>= fun x => (ret ()) >>= fun y => ret (x, y)) >>= fun y => cpu (m_is_letter y.1 ())) >>= fun c => if c = true then ret true else (((rd fun _ => p_sign) >>= fun x => (ret ()) >>= fun y => ret (x, y)) >>= fun y => cpu (m_is_digit y.1 ()))) (fun _ s => s) fun a s => .ok a (s))
abbrev N_is_name_sign : List Str := ["sign"]
theorem Sc_is_name_sign : FnScope N_is_name_sign ["sign"] (defScope s7) := ⟨rfl, rfl, rfl, by decide +kernel, rfl, by decide +kernel, by decide +kernel⟩
theorem bo_is_name_sign (T : Txt K mg) {cdv : Value} {A : Around} {outer : List Env} {s0 : Shared} {H0 : Hp} {E : XK} (hr : Room 1 (Cb Pg w K mg base N_is_name_sign "is_name_sign" (defScope s7) (He.ga K "is_name_sign") cdv A outer s0 H0 E).A) (tk : Takes (Cb Pg w K mg base N_is_name_sign "is_name_sign" (defScope s7) (He.ga K "is_name_sign") cdv A outer s0 H0 E) (WF E)) (hp : PassesOwn (model Pg w) (Cb Pg w K mg base N_is_name_sign "is_name_sign" (defScope s7) (He.ga K "is_name_sign") cdv A outer s0 H0 E).A (Cb Pg w K mg base N_is_name_sign "is_name_sign" (defScope s7) (He.ga K "is_name_sign") cdv A outer s0 H0 E).env (Cb Pg w K mg base N_is_name_sign "is_name_sign" (defScope s7) (He.ga K "is_name_sign") cdv A outer s0 H0 E).xe) (p_sign : Tx) :
    Bl (Cb Pg w K mg base N_is_name_sign "is_name_sign" (defScope s7) (He.ga K "is_name_sign") cdv A outer s0 H0 E) (WF E) (fun (s : Unit) => [aStr p_sign]) (defBody s7) (m_is_name_sign p_sign) (fun b _ => .rt (aBl b) [] []) (ehF mg K (fun _ => []) []) :=
  (by refine (bl_ret (g := fun a => a) ?_ eh0 io0 (fun _ _ => rfl)); (refine (ex_or ?_ ?_); (refine (ex_call0 (kx := fun y : (Tx × Unit) => y) (fm := fun y : (Tx × Unit) => m_is_letter y.1 ()) (ok_is_letter T) (hr.mono (by decide)) tk T.g_is_letter T.kp_is_letter (b_is_letter T) ?_ (fun _ => rfl)); (refine (ea_cons (P := aStr) (Lb := (fun z : Unit => [])) ?_ ea_nil); (exact (ex_var (P := aStr) (f := fun _ => p_sign) 0 (fun _ => rfl))))); (refine (ex_one ?_); (refine (ex_call0 (kx := fun y : (Tx × Unit) => y) (fm := fun y : (Tx × Unit) => m_is_digit y.1 ()) (ok_is_digit T) (hr.mono (by decide)) tk T.g_is_digit T.kp_is_digit (b_is_digit T) ?_ (fun _ => rfl)); (refine (ea_cons (P := aStr) (Lb := (fun z : Unit => [])) ?_ ea_nil); (exact (ex_var (P := aStr) (f := fun _ => p_sign) 0 (fun _ => rfl))))))))
theorem ok_is_name_sign (T : Txt K mg) : FnOk Pg w K mg base (L2.CX Pg w) 2 (He.ga K "is_name_sign") (T.F_is_name_sign).choose ["sign"] (spC mg K (fun y : (Tx × Unit) => [aStr y.1]) [] aBl (fun _ => []) fun y => m_is_name_sign y.1 ()) :=
  fn0 (pin := fun y : (Tx × Unit) => [aStr y.1]) (m := fun y => m_is_name_sign y.1) (Γ := fun y (s : Unit) => [aStr y.1]) (T.F_is_name_sign).choose_spec Sc_is_name_sign (fun _ => rfl) (fun _ => rfl) fun cdv A outer s H E hr tk hp y => bo_is_name_sign T hr tk hp y.1
theorem b_is_name_sign (T : Txt K mg) : Binds K (T.F_is_name_sign).choose ["sign"] [] := FunD.bindsN (T.F_is_name_sign).choose_spec fun _ _ _ _ _ _ us hl => match us, hl with | [_], _ => rfl
theorem Txt.kp_is_name_sign (T : Txt K mg) : PySem.W.keepIn K (.ref (He.ga K "is_name_sign")) = true := (T.F_is_name_sign).choose_spec.kp
def m_has_name_form (p_text : Tx) (p_most : Int) : M Unit Bool := (bdo (fun s => s) (((((rd fun _ => p_text) >>= fun x => (ret ()) >>= fun y => ret (x, y)) >>= fun y => lf (lenT y.1)) >>= fun x => (rd fun _ => p_most) >>= fun y => lf (some (decide (y < x)))) >>= fun c => if c = true then ret true else (((((rd fun _ => p_text) >>= fun x => (ret none) >>= fun i => ((ret (1 : Int)) >>= fun i => ret (some i)) >>= fun j => lf (cutT x i j)) >>= fun x => (ret ()) >>= fun y => ret (x, y)) >>= fun y => cpu (m_is_letter y.1 ())) >>= fun c => ret (!c))) (fun _ s => s) fun k => if k = true then (bdo (fun s => s) (ret false) (fun _ s => s) fun a s => .ok a (s)) else (bdo (fun s => s) (((((rd fun _ => p_text) >>= fun t => ret (t.map fun c => [c])) >>= fun xs => mpM (fun x1 => (((rd fun _ => x1) >>= fun x => (ret ()) >>= fun y => ret (x, y)) >>= fun y => cpu (m_is_name_sign y.1 ()))) xs) >>= fun x => ret () >>= fun y => ret (x, y)) >>= fun y => lf (some (y.1.all id))) (fun _ s => s) fun a s => .ok a (s)))
abbrev N_has_name_form : List Str := ["text", "most", "sign"]
theorem Sc_has_name_form : FnScope N_has_name_form ["text", "most"] (defScope s8) := ⟨rfl, rfl, rfl, by decide +kernel, rfl, by decide +kernel, by decide +kernel⟩
theorem bo_has_name_form (T : Txt K mg) {cdv : Value} {A : Around} {outer : List Env} {s0 : Shared} {H0 : Hp} {E : XK} (hr : Room 2 (Cb Pg w K mg base N_has_name_form "has_name_form" (defScope s8) (He.ga K "has_name_form") cdv A outer s0 H0 E).A) (tk : Takes (Cb Pg w K mg base N_has_name_form "has_name_form" (defScope s8) (He.ga K "has_name_form") cdv A outer s0 H0 E) (WF E)) (hp : PassesOwn (model Pg w) (Cb Pg w K mg base N_has_name_form "has_name_form" (defScope s8) (He.ga K "has_name_form") cdv A outer s0 H0 E).A (Cb Pg w K mg base N_has_name_form "has_name_form" (defScope s8) (He.ga K "has_name_form") cdv A outer s0 H0 E).env (Cb Pg w K mg base N_has_name_form "has_name_form" (defScope s8) (He.ga K "has_name_form") cdv A outer s0 H0 E).xe) (p_text : Tx) (p_most : Int) :
    Bl (Cb Pg w K mg base N_has_name_form "has_name_form" (defScope s8) (He.ga K "has_name_form") cdv A outer s0 H0 E) (WF E) (fun (s : Unit) => [aStr p_text, aInt p_most, aNo]) (defBody s8) (m_has_name_form p_text p_most) (fun b _ => .rt (aBl b) [] []) (ehF mg K (fun _ => []) []) :=
  (by refine (bl_ifT ?_ eh0 ?_ ?_ nonx); (refine (Ew.et ?_); (refine (ew_or ?_ ?_); (refine (et_cmp op_gt o_cmpI ?_ ?_); (refine (ex_callB call_len_str b_lenT T.n_len ?_); (refine (ea_cons (P := aStr) (Lb := (fun z : Unit => [])) ?_ ea_nil); (exact (ex_var (P := aStr) (f := fun _ => p_text) 0 (fun _ => rfl))))); (exact (ex_var (P := aInt) (f := fun _ => p_most) 1 (fun _ => rfl)))); (refine (ew_or1 ?_); (refine (et_not ?_); (refine (et_val ?_); (refine (ex_call0 (kx := fun y : (Tx × Unit) => y) (fm := fun y : (Tx × Unit) => m_is_letter y.1 ()) (ok_is_letter T) (hr.mono (by decide)) tk T.g_is_letter T.kp_is_letter (b_is_letter T) ?_ (fun _ => rfl)); (refine (ea_cons (P := aStr) (Lb := (fun z : Unit => [])) ?_ ea_nil); (refine (ex_slice sl_str o_cutT ?_ eo_none ?_); (exact (ex_var (P := aStr) (f := fun _ => p_text) 0 (fun _ => rfl))); (exact (eo_some ex_int)))))))))); (exact (bl_ret (g := fun a => a) ex_bl eh0 io0 (fun _ _ => rfl))); (refine (bl_ret (g := fun a => a) ?_ eh0 io0 (fun _ _ => rfl)); (refine (ex_callB (cr_all rfl) b_all T.n_all ?_); (refine (ea_cons (P := (aL aBl)) (Lb := (fun _ : Unit => [])) ?_ ea_nil); (refine (ex_lc ?_); (refine (lcj [("sign", 2)] (fun (x1 : Tx) (s : Unit) => [aStr p_text, aInt p_most, aStr x1]) ?_ (fun _ _ _ _ _ => (tg_name (P := aStr) 2 (Sc_has_name_form).nd)) (fun _ _ => rfl) ?_ (fun _ => inferInstance) (by decide) (un_cons (fun _ => rfl) un_nil) rfl (Sc_has_name_form).nd (blkOk_by rfl)); (refine (es_str ?_); (exact (ex_var (P := aStr) (f := fun _ => p_text) 0 (fun _ => rfl)))); (exact (fun _ _ _ _ _ x1 => (by refine (ex_call0 (kx := fun y : (Tx × Unit) => y) (fm := fun y : (Tx × Unit) => m_is_name_sign y.1 ()) (ok_is_name_sign T) (hr.mono (by decide)) tk0 T.g_is_name_sign T.kp_is_name_sign (b_is_name_sign T) ?_ (fun _ => rfl)); (refine (ea_cons (P := aStr) (Lb := (fun z : Unit => [])) ?_ ea_nil); (exact (ex_var (P := aStr) (f := fun _ => x1) 2 (fun _ => rfl)))))))))))))
theorem ok_has_name_form (T : Txt K mg) : FnOk Pg w K mg base (L2.CX Pg w) 3 (He.ga K "has_name_form") (T.F_has_name_form).choose ["text", "most"] (spC mg K (fun y : (Tx × (Int × Unit)) => [aStr y.1, aInt y.2.1]) [] aBl (fun _ => []) fun y => m_has_name_form y.1 y.2.1 ()) :=
  fn0 (pin := fun y : (Tx × (Int × Unit)) => [aStr y.1, aInt y.2.1]) (m := fun y => m_has_name_form y.1 y.2.1) (Γ := fun y (s : Unit) => [aStr y.1, aInt y.2.1, aNo]) (T.F_has_name_form).choose_spec Sc_has_name_form (fun _ => rfl) (fun _ => rfl) fun cdv A outer s H E hr tk hp y => bo_has_name_form T hr tk hp y.1 y.2.1
theorem b_has_name_form (T : Txt K mg) : Binds K (T.F_has_name_form).choose ["text", "most"] [] := FunD.bindsN (T.F_has_name_form).choose_spec fun _ _ _ _ _ _ us hl => match us, hl with | [_, _], _ => rfl
theorem Txt.kp_has_name_form (T : Txt K mg) : PySem.W.keepIn K (.ref (He.ga K "has_name_form")) = true := (T.F_has_name_form).choose_spec.kp
def m_is_name (p_text : Tx) : M Unit Bool := (bdo (fun s => s) (((rd fun _ => p_text) >>= fun x => ((ret (12 : Int)) >>= fun x => (ret ()) >>= fun y => ret (x, y)) >>= fun y => ret (x, y)) >>= fun y => cpu (m_has_name_form y.1 y.2.1 ())) (fun _ s => s) fun a s => .ok a (s))
abbrev N_is_name : List Str := ["text"]
theorem Sc_is_name : FnScope N_is_name ["text"] (defScope s9) := ⟨rfl, rfl, rfl, by decide +kernel, rfl, by decide +kernel, by decide +kernel⟩
theorem bo_is_name (T : Txt K mg) {cdv : Value} {A : Around} {outer : List Env} {s0 : Shared} {H0 : Hp} {E : XK} (hr : Room 3 (Cb Pg w K mg base N_is_name "is_name" (defScope s9) (He.ga K "is_name") cdv A outer s0 H0 E).A) (tk : Takes (Cb Pg w K mg base N_is_name "is_name" (defScope s9) (He.ga K "is_name") cdv A outer s0 H0 E) (WF E)) (hp : PassesOwn (model Pg w) (Cb Pg w K mg base N_is_name "is_name" (defScope s9) (He.ga K "is_name") cdv A outer s0 H0 E).A (Cb Pg w K mg base N_is_name "is_name" (defScope s9) (He.ga K "is_name") cdv A outer s0 H0 E).env (Cb Pg w K mg base N_is_name "is_name" (defScope s9) (He.ga K "is_name") cdv A outer s0 H0 E).xe) (p_text : Tx) :
    Bl (Cb Pg w K mg base N_is_name "is_name" (defScope s9) (He.ga K "is_name") cdv A outer s0 H0 E) (WF E) (fun (s : Unit) => [aStr p_text]) (defBody s9) (m_is_name p_text) (fun b _ => .rt (aBl b) [] []) (ehF mg K (fun _ => []) []) :=
  (by refine (bl_ret (g := fun a => a) ?_ eh0 io0 (fun _ _ => rfl)); (refine (ex_call0 (kx := fun y : (Tx × (Int × Unit)) => y) (fm := fun y : (Tx × (Int × Unit)) => m_has_name_form y.1 y.2.1 ()) (ok_has_name_form T) (hr.mono (by decide)) tk T.g_has_name_form T.kp_has_name_form (b_has_name_form T) ?_ (fun _ => rfl)); (refine (ea_cons (P := aStr) (Lb := (fun z : (Int × Unit) => [aInt z.1])) ?_ ?_); (exact (ex_var (P := aStr) (f := fun _ => p_text) 0 (fun _ => rfl))); (refine (ea_cons (P := aInt) (Lb := (fun z : Unit => [])) ?_ ea_nil); (exact (ex_gint (T.i_NAME_MOST).choose_spec ⟨_, rfl⟩))))))
theorem ok_is_name (T : Txt K mg) : FnOk Pg w K mg base (L2.CX Pg w) 4 (He.ga K "is_name") (T.F_is_name).choose ["text"] (spC mg K (fun y : (Tx × Unit) => [aStr y.1]) [] aBl (fun _ => []) fun y => m_is_name y.1 ()) :=
  fn0 (pin := fun y : (Tx × Unit) => [aStr y.1]) (m := fun y => m_is_name y.1) (Γ := fun y (s : Unit) => [aStr y.1]) (T.F_is_name).choose_spec Sc_is_name (fun _ => rfl) (fun _ => rfl) fun cdv A outer s H E hr tk hp y => bo_is_name T hr tk hp y.1
theorem b_is_name (T : Txt K mg) : Binds K (T.F_is_name).choose ["text"] [] := FunD.bindsN (T.F_is_name).choose_spec fun _ _ _ _ _ _ us hl => match us, hl with | [_], _ => rfl
theorem Txt.kp_is_name (T : Txt K mg) : PySem.W.keepIn K (.ref (He.ga K "is_name")) = true := (T.F_is_name).choose_spec.kp
def m_is_word (p_text : Tx) : M Unit Bool := (bdo (fun s => s) (((rd fun _ => p_text) >>= fun x => ((ret (40 : Int)) >>= fun x => (ret ()) >>= fun y => ret (x, y)) >>= fun y => ret (x, y)) >>= fun y => cpu (m_has_name_form y.1 y.2.1 ())) (fun _ s => s) fun a s => .ok a (s))
abbrev N_is_word : List Str := ["text"]
theorem Sc_is_word : FnScope N_is_word ["text"] (defScope s10) := ⟨rfl, rfl, rfl, by decide +kernel, rfl, by decide +kernel, by decide +kernel⟩
theorem bo_is_word (T : Txt K mg) {cdv : Value} {A : Around} {outer : List Env} {s0 : Shared} {H0 : Hp} {E : XK} (hr : Room 3 (Cb Pg w K mg base N_is_word "is_word" (defScope s10) (He.ga K "is_word") cdv A outer s0 H0 E).A) (tk : Takes (Cb Pg w K mg base N_is_word "is_word" (defScope s10) (He.ga K "is_word") cdv A outer s0 H0 E) (WF E)) (hp : PassesOwn (model Pg w) (Cb Pg w K mg base N_is_word "is_word" (defScope s10) (He.ga K "is_word") cdv A outer s0 H0 E).A (Cb Pg w K mg base N_is_word "is_word" (defScope s10) (He.ga K "is_word") cdv A outer s0 H0 E).env (Cb Pg w K mg base N_is_word "is_word" (defScope s10) (He.ga K "is_word") cdv A outer s0 H0 E).xe) (p_text : Tx) :
    Bl (Cb Pg w K mg base N_is_word "is_word" (defScope s10) (He.ga K "is_word") cdv A outer s0 H0 E) (WF E) (fun (s : Unit) => [aStr p_text]) (defBody s10) (m_is_word p_text) (fun b _ => .rt (aBl b) [] []) (ehF mg K (fun _ => []) []) :=
  (by refine (bl_ret (g := fun a => a) ?_ eh0 io0 (fun _ _ => rfl)); (refine (ex_call0 (kx := fun y : (Tx × (Int × Unit)) => y) (fm := fun y : (Tx × (Int × Unit)) => m_has_name_form y.1 y.2.1 ()) (ok_has_name_form T) (hr.mono (by decide)) tk T.g_has_name_form T.kp_has_name_form (b_has_name_form T) ?_ (fun _ => rfl)); (refine (ea_cons (P := aStr) (Lb := (fun z : (Int × Unit) => [aInt z.1])) ?_ ?_); (exact (ex_var (P := aStr) (f := fun _ => p_text) 0 (fun _ => rfl))); (refine (ea_cons (P := aInt) (Lb := (fun z : Unit => [])) ?_ ea_nil); (exact (ex_gint (T.i_WORD_MOST).choose_spec ⟨_, rfl⟩))))))
theorem ok_is_word (T : Txt K mg) : FnOk Pg w K mg base (L2.CX Pg w) 4 (He.ga K "is_word") (T.F_is_word).choose ["text"] (spC mg K (fun y : (Tx × Unit) => [aStr y.1]) [] aBl (fun _ => []) fun y => m_is_word y.1 ()) :=
  fn0 (pin := fun y : (Tx × Unit) => [aStr y.1]) (m := fun y => m_is_word y.1) (Γ := fun y (s : Unit) => [aStr y.1]) (T.F_is_word).choose_spec Sc_is_word (fun _ => rfl) (fun _ => rfl) fun cdv A outer s H E hr tk hp y => bo_is_word T hr tk hp y.1
theorem b_is_word (T : Txt K mg) : Binds K (T.F_is_word).choose ["text"] [] := FunD.bindsN (T.F_is_word).choose_spec fun _ _ _ _ _ _ us hl => match us, hl with | [_], _ => rfl
theorem Txt.kp_is_word (T : Txt K mg) : PySem.W.keepIn K (.ref (He.ga K "is_word")) = true := (T.F_is_word).choose_spec.kp
def m_is_tail (p_text : Tx) : M Unit Bool := (bdo (fun s => s) (((((rd fun _ => p_text) >>= fun x => (ret ()) >>= fun y => ret (x, y)) >>= fun y => lf (lenT y.1)) >>= fun x => (ret (6 : Int)) >>= fun y => lf (some (decide (x ≤ y)))) >>= fun c => if c = true then (((((rd fun _ => p_text) >>= fun t => ret (t.map fun c => [c])) >>= fun xs => mpM (fun x2 => (((rd fun _ => x2) >>= fun x => (ret ()) >>= fun y => ret (x, y)) >>= fun y => cpu (m_is_name_sign y.1 ()))) xs) >>= fun x => ret () >>= fun y => ret (x, y)) >>= fun y => lf (some (y.1.all id))) else ret false) (fun _ s => s) fun a s => .ok a (s))
abbrev N_is_tail : List Str := ["text", "sign"]
theorem Sc_is_tail : FnScope N_is_tail ["text"] (defScope s11) := ⟨rfl, rfl, rfl, by decide +kernel, rfl, by decide +kernel, by decide +kernel⟩
theorem bo_is_tail (T : Txt K mg) {cdv : Value} {A : Around} {outer : List Env} {s0 : Shared} {H0 : Hp} {E : XK} (hr : Room 2 (Cb Pg w K mg base N_is_tail "is_tail" (defScope s11) (He.ga K "is_tail") cdv A outer s0 H0 E).A) (tk : Takes (Cb Pg w K mg base N_is_tail "is_tail" (defScope s11) (He.ga K "is_tail") cdv A outer s0 H0 E) (WF E)) (hp : PassesOwn (model Pg w) (Cb Pg w K mg base N_is_tail "is_tail" (defScope s11) (He.ga K "is_tail") cdv A outer s0 H0 E).A (Cb Pg w K mg base N_is_tail "is_tail" (defScope s11) (He.ga K "is_tail") cdv A outer s0 H0 E).env (Cb Pg w K mg base N_is_tail "is_tail" (defScope s11) (He.ga K "is_tail") cdv A outer s0 H0 E).xe) (p_text : Tx) :
    Bl (Cb Pg w K mg base N_is_tail "is_tail" (defScope s11) (He.ga K "is_tail") cdv A outer s0 H0 E) (WF E) (fun (s : Unit) => [aStr p_text, aNo]) (defBody s11) (m_is_tail p_text) (fun b _ => .rt (aBl b) [] []) (ehF mg K (fun _ => []) []) :=
  (by refine (bl_ret (g := fun a => a) ?_ eh0 io0 (fun _ _ => rfl)); (refine (ex_and ?_ ?_); (refine (ex_cmp op_le o_cmpI ?_ ?_); (refine (ex_callB call_len_str b_lenT T.n_len ?_); (refine (ea_cons (P := aStr) (Lb := (fun z : Unit => [])) ?_ ea_nil); (exact (ex_var (P := aStr) (f := fun _ => p_text) 0 (fun _ => rfl))))); (exact (ex_gint (T.i_TAIL_MOST).choose_spec ⟨_, rfl⟩))); (refine (ex_one ?_); (refine (ex_callB (cr_all rfl) b_all T.n_all ?_); (refine (ea_cons (P := (aL aBl)) (Lb := (fun _ : Unit => [])) ?_ ea_nil); (refine (ex_lc ?_); (refine (lcj [("sign", 1)] (fun (x2 : Tx) (s : Unit) => [aStr p_text, aStr x2]) ?_ (fun _ _ _ _ _ => (tg_name (P := aStr) 1 (Sc_is_tail).nd)) (fun _ _ => rfl) ?_ (fun _ => inferInstance) (by decide) (un_cons (fun _ => rfl) un_nil) rfl (Sc_is_tail).nd (blkOk_by rfl)); (refine (es_str ?_); (exact (ex_var (P := aStr) (f := fun _ => p_text) 0 (fun _ => rfl)))); (exact (fun _ _ _ _ _ x2 => (by refine (ex_call0 (kx := fun y : (Tx × Unit) => y) (fm := fun y : (Tx × Unit) => m_is_name_sign y.1 ()) (ok_is_name_sign T) (hr.mono (by decide)) tk0 T.g_is_name_sign T.kp_is_name_sign (b_is_name_sign T) ?_ (fun _ => rfl)); (refine (ea_cons (P := aStr) (Lb := (fun z : Unit => [])) ?_ ea_nil); (exact (ex_var (P := aStr) (f := fun _ => x2) 1 (fun _ => rfl))))))))))))))
theorem ok_is_tail (T : Txt K mg) : FnOk Pg w K mg base (L2.CX Pg w) 3 (He.ga K "is_tail") (T.F_is_tail).choose ["text"] (spC mg K (fun y : (Tx × Unit) => [aStr y.1]) [] aBl (fun _ => []) fun y => m_is_tail y.1 ()) :=
  fn0 (pin := fun y : (Tx × Unit) => [aStr y.1]) (m := fun y => m_is_tail y.1) (Γ := fun y (s : Unit) => [aStr y.1, aNo]) (T.F_is_tail).choose_spec Sc_is_tail (fun _ => rfl) (fun _ => rfl) fun cdv A outer s H E hr tk hp y => bo_is_tail T hr tk hp y.1
theorem b_is_tail (T : Txt K mg) : Binds K (T.F_is_tail).choose ["text"] [] := FunD.bindsN (T.F_is_tail).choose_spec fun _ _ _ _ _ _ us hl => match us, hl with | [_], _ => rfl
theorem Txt.kp_is_tail (T : Txt K mg) : PySem.W.keepIn K (.ref (He.ga K "is_tail")) = true := (T.F_is_tail).choose_spec.kp
def m_is_reading_name (p_text : Tx) : M Unit Bool := (bdo (fun s => s) ((rd fun _ => p_text) >>= fun x => ((ret (tx "~")) >>= fun x => (ret ()) >>= fun y => ret (x, y)) >>= fun y => lf (splitT x y.1)) (fun _ s => s) fun a3 => (bdo (fun s => s) (((((rd fun _ => a3) >>= fun x => (ret ()) >>= fun y => ret (x, y)) >>= fun y => lf (some (y.1.length : Int))) >>= fun x => (ret (4 : Int)) >>= fun y => lf (some (decide (x ≤ y)))) >>= fun c => if c = true then ((((rd fun _ => a3) >>= fun xs => mpM (fun x4 => (((rd fun _ => x4) >>= fun x => (ret ()) >>= fun y => ret (x, y)) >>= fun y => cpu (m_is_name y.1 ()))) xs) >>= fun x => ret () >>= fun y => ret (x, y)) >>= fun y => lf (some (y.1.all id))) else ret false) (fun _ s => s) fun a s => .ok a (s)))
abbrev N_is_reading_name : List Str := ["text", "parts", "part"]
theorem Sc_is_reading_name : FnScope N_is_reading_name ["text"] (defScope s12) := ⟨rfl, rfl, rfl, by decide +kernel, rfl, by decide +kernel, by decide +kernel⟩
theorem bo_is_reading_name (T : Txt K mg) {cdv : Value} {A : Around} {outer : List Env} {s0 : Shared} {H0 : Hp} {E : XK} (hr : Room 4 (Cb Pg w K mg base N_is_reading_name "is_reading_name" (defScope s12) (He.ga K "is_reading_name") cdv A outer s0 H0 E).A) (tk : Takes (Cb Pg w K mg base N_is_reading_name "is_reading_name" (defScope s12) (He.ga K "is_reading_name") cdv A outer s0 H0 E) (WF E)) (hp : PassesOwn (model Pg w) (Cb Pg w K mg base N_is_reading_name "is_reading_name" (defScope s12) (He.ga K "is_reading_name") cdv A outer s0 H0 E).A (Cb Pg w K mg base N_is_reading_name "is_reading_name" (defScope s12) (He.ga K "is_reading_name") cdv A outer s0 H0 E).env (Cb Pg w K mg base N_is_reading_name "is_reading_name" (defScope s12) (He.ga K "is_reading_name") cdv A outer s0 H0 E).xe) (p_text : Tx) :
    Bl (Cb Pg w K mg base N_is_reading_name "is_reading_name" (defScope s12) (He.ga K "is_reading_name") cdv A outer s0 H0 E) (WF E) (fun (s : Unit) => [aStr p_text, aNo, aNo]) (defBody s12) (m_is_reading_name p_text) (fun b _ => .rt (aBl b) [] []) (ehF mg K (fun _ => []) []) :=
  (by refine (bl_set (Γ2 := fun (a3 : (List Tx)) (s : Unit) => [aStr p_text, (aF aStr) a3, aNo]) 1 ?_ eh0 ?_ (fun _ _ => rfl) (Sc_is_reading_name).nd); (refine (ex_frz (P := (aL aStr)) ?_ fun _ => frz_list); (refine (ex_bm PySem.F.plainAttrs_str PySem.F.slot_str_split PySem.F.type_str_split mt_split m_split (fun _ => ty_str) ?_ ?_); (exact (ex_var (P := aStr) (f := fun _ => p_text) 0 (fun _ => rfl))); (exact (ea_cons (P := aStr) (Lb := (fun z : Unit => [])) ex_str ea_nil)))); (exact (fun a3 => (by refine (bl_ret (g := fun a => a) ?_ eh0 io0 (fun _ _ => rfl)); (refine (ex_and ?_ ?_); (refine (ex_cmp op_le o_cmpI ?_ ?_); (refine (ex_callB call_len_seq (b_lenQ (P := aStr) (Pa := (aF aStr)) (xs := fun x => x) (fun _ => inferInstance)) T.n_len ?_); (refine (ea_cons (P := (aF aStr)) (Lb := (fun z : Unit => [])) ?_ ea_nil); (exact (ex_var (P := (aF aStr)) (f := fun _ => a3) 1 (fun _ => rfl))))); (exact (ex_gint (T.i_PARTS_MOST).choose_spec ⟨_, rfl⟩))); (refine (ex_one ?_); (refine (ex_callB (cr_all rfl) b_all T.n_all ?_); (refine (ea_cons (P := (aL aBl)) (Lb := (fun _ : Unit => [])) ?_ ea_nil); (refine (ex_lc ?_); (refine (lcj [("part", 2)] (fun (x4 : Tx) (s : Unit) => [aStr p_text, (aF aStr) a3, aStr x4]) ?_ (fun _ _ _ _ _ => (tg_name (P := aStr) 2 (Sc_is_reading_name).nd)) (fun _ _ => rfl) ?_ (fun _ => inferInstance) (by decide) (un_cons (fun _ => rfl) un_nil) rfl (Sc_is_reading_name).nd (blkOk_by rfl)); (refine (es_frz ?_); (exact (ex_var (P := (aF aStr)) (f := fun _ => a3) 1 (fun _ => rfl)))); (exact (fun _ _ _ _ _ x4 => (by refine (ex_call0 (kx := fun y : (Tx × Unit) => y) (fm := fun y : (Tx × Unit) => m_is_name y.1 ()) (ok_is_name T) (hr.mono (by decide)) tk0 T.g_is_name T.kp_is_name (b_is_name T) ?_ (fun _ => rfl)); (refine (ea_cons (P := aStr) (Lb := (fun z : Unit => [])) ?_ ea_nil); (exact (ex_var (P := aStr) (f := fun _ => x4) 2 (fun _ => rfl)))))))))))))))))
theorem ok_is_reading_name (T : Txt K mg) : FnOk Pg w K mg base (L2.CX Pg w) 5 (He.ga K "is_reading_name") (T.F_is_reading_name).choose ["text"] (spC mg K (fun y : (Tx × Unit) => [aStr y.1]) [] aBl (fun _ => []) fun y => m_is_reading_name y.1 ()) :=
  fn0 (pin := fun y : (Tx × Unit) => [aStr y.1]) (m := fun y => m_is_reading_name y.1) (Γ := fun y (s : Unit) => [aStr y.1, aNo, aNo]) (T.F_is_reading_name).choose_spec Sc_is_reading_name (fun _ => rfl) (fun _ => rfl) fun cdv A outer s H E hr tk hp y => bo_is_reading_name T hr tk hp y.1
theorem b_is_reading_name (T : Txt K mg) : Binds K (T.F_is_reading_name).choose ["text"] [] := FunD.bindsN (T.F_is_reading_name).choose_spec fun _ _ _ _ _ _ us hl => match us, hl with | [_], _ => rfl
theorem Txt.kp_is_reading_name (T : Txt K mg) : PySem.W.keepIn K (.ref (He.ga K "is_reading_name")) = true := (T.F_is_reading_name).choose_spec.kp
def m_first_bad_name (p_texts : (List Tx)) : M Unit (Option Tx) := (bdo (fun s => s) (rd fun _ => p_texts) (fun _ s => s) fun xs => bdo (fun s => s) (forL (fun (g6 : Unit) (x5 : Tx) => (bdo (fun s => s) ((((rd fun _ => x5) >>= fun x => (ret ()) >>= fun y => ret (x, y)) >>= fun y => cpu (m_is_name y.1 ())) >>= fun c => ret (!c)) (fun _ s => s) fun k => if k = true then mpo (fun y => (Lp.go y)) (bdo (fun s => s) ((rd fun _ => x5) >>= fun x => ret (some x)) (fun _ s => s) fun a s => .ok a (s)) else (fun s => .ok (Lp.nx ()) (s)))) xs ()) (fun _ s => s) (wyk (fun s => s) (fun y => y) fun (g6 : Unit) => (bdo (fun s => s) ((ret ()) >>= fun _ => ret none) (fun _ s => s) fun a s => .ok a (s))))
abbrev N_first_bad_name : List Str := ["texts", "text"]
theorem Sc_first_bad_name : FnScope N_first_bad_name ["texts"] (defScope s13) := ⟨rfl, rfl, rfl, by decide +kernel, rfl, by decide +kernel, by decide +kernel⟩
theorem bo_first_bad_name (T : Txt K mg) {cdv : Value} {A : Around} {outer : List Env} {s0 : Shared} {H0 : Hp} {E : XK} (hr : Room 4 (Cb Pg w K mg base N_first_bad_name "first_bad_name" (defScope s13) (He.ga K "first_bad_name") cdv A outer s0 H0 E).A) (tk : Takes (Cb Pg w K mg base N_first_bad_name "first_bad_name" (defScope s13) (He.ga K "first_bad_name") cdv A outer s0 H0 E) (WF E)) (hp : PassesOwn (model Pg w) (Cb Pg w K mg base N_first_bad_name "first_bad_name" (defScope s13) (He.ga K "first_bad_name") cdv A outer s0 H0 E).A (Cb Pg w K mg base N_first_bad_name "first_bad_name" (defScope s13) (He.ga K "first_bad_name") cdv A outer s0 H0 E).env (Cb Pg w K mg base N_first_bad_name "first_bad_name" (defScope s13) (He.ga K "first_bad_name") cdv A outer s0 H0 E).xe) (p_texts : (List Tx)) :
    Bl (Cb Pg w K mg base N_first_bad_name "first_bad_name" (defScope s13) (He.ga K "first_bad_name") cdv A outer s0 H0 E) (WF E) (fun (s : Unit) => [(aT aStr) p_texts, aNo]) (defBody s13) (m_first_bad_name p_texts) (fun b _ => .rt ((aOpt aStr) b) [] []) (ehF mg K (fun _ => []) []) :=
  (by refine (bl_forL (g0 := ()) (ι := (fun y => y)) (L := fun (g6 : Unit) (s : Unit) => [aNo, aNo]) (Γb := fun (g6 : Unit) (x5 : Tx) (s : Unit) => [aNo, aStr x5]) ?_ eh0 (tg_name (P := aStr) 1 (Sc_first_bad_name).nd) (fun _ => (.no (.same .nil))) (fun _ _ _ => rfl) ehq ?_ ?_ ort hp rfl); (refine (es_tup ?_); (exact (ex_var (P := (aT aStr)) (f := fun _ => p_texts) 0 (fun _ => rfl)))); (exact (fun g6 x5 => (by refine (bl_ifTm (ι := (fun y => (Lp.go y))) ?_ eh0 ?_ (bl_nil (g := fun (s : Unit) => (Lp.nx ())) (fun _ => rfl) (fun _ => rfl) (fun _ => (.same (.no .nil)))) nonx); (refine (et_not ?_); (refine (et_val ?_); (refine (ex_call0 (kx := fun y : (Tx × Unit) => y) (fm := fun y : (Tx × Unit) => m_is_name y.1 ()) (ok_is_name T) (hr.mono (by decide)) tk T.g_is_name T.kp_is_name (b_is_name T) ?_ (fun _ => rfl)); (refine (ea_cons (P := aStr) (Lb := (fun z : Unit => [])) ?_ ea_nil); (exact (ex_var (P := aStr) (f := fun _ => x5) 1 (fun _ => rfl))))))); (refine (bl_ret (g := fun a => a) ?_ eh0 io0 (fun _ _ => rfl)); (refine (ex_map (P := aStr) (f := fun x => some x) (Q := (aOpt aStr)) ?_ fun _ => rfl); (exact (ex_var (P := aStr) (f := fun _ => x5) 1 (fun _ => rfl)))))))); (exact (fun g6 => (by refine (bl_ret (g := fun a => a) ?_ eh0 io0 (fun _ _ => rfl)); (exact (ex_map (P := aNon) (f := fun _ => none) (Q := (aOpt aStr)) ex_non fun _ => rfl))))))
theorem ok_first_bad_name (T : Txt K mg) : FnOk Pg w K mg base (L2.CX Pg w) 5 (He.ga K "first_bad_name") (T.F_first_bad_name).choose ["texts"] (spC mg K (fun y : ((List Tx) × Unit) => [(aT aStr) y.1]) [] (aOpt aStr) (fun _ => []) fun y => m_first_bad_name y.1 ()) :=
  fn0 (pin := fun y : ((List Tx) × Unit) => [(aT aStr) y.1]) (m := fun y => m_first_bad_name y.1) (Γ := fun y (s : Unit) => [(aT aStr) y.1, aNo]) (T.F_first_bad_name).choose_spec Sc_first_bad_name (fun _ => rfl) (fun _ => rfl) fun cdv A outer s H E hr tk hp y => bo_first_bad_name T hr tk hp y.1
theorem b_first_bad_name (T : Txt K mg) : Binds K (T.F_first_bad_name).choose ["texts"] [] := FunD.bindsN (T.F_first_bad_name).choose_spec fun _ _ _ _ _ _ us hl => match us, hl with | [_], _ => rfl
theorem kb_first_bad_name (T : Txt K mg) : KBinds K (T.F_first_bad_name).choose ["texts"] ["texts"] (fun us ws => match us with | [] => ws | _ => []) (fun vs zs => match vs with | [] => zs | _ => []) := FunD.kbinds (T.F_first_bad_name).choose_spec (by simp) fun _ _ _ _ _ _ ws hl => match ws, hl with | [_], _ => rfl
theorem Txt.kp_first_bad_name (T : Txt K mg) : PySem.W.keepIn K (.ref (He.ga K "first_bad_name")) = true := (T.F_first_bad_name).choose_spec.kp
def m__law_mixed (p_number : Int) (p_turn : Int) : M Unit Int := (bdo (fun s => s) (((((((rd fun _ => p_number) >>= fun x => (ret ()) >>= fun y => ret (x, y)) >>= fun y => lf (some y.1)) >>= fun x => (ret (2147483647 : Int)) >>= fun y => lf (if 0 < y then some (x % y) else none)) >>= fun x => ((rd fun _ => p_turn) >>= fun x => (ret (7919 : Int)) >>= fun y => lf (if CMul x y then some (x * y) else none)) >>= fun y => lf (some (x + y))) >>= fun x => (ret (104729 : Int)) >>= fun y => lf (some (x + y))) >>= fun x => (ret (2147483647 : Int)) >>= fun y => lf (if 0 < y then some (x % y) else none)) (fun _ s => s) fun a7 => (bdo (fun s => s) (((rd fun _ => a7) >>= fun x => (ret (48271 : Int)) >>= fun y => lf (if CMul x y then some (x * y) else none)) >>= fun x => (ret (2147483647 : Int)) >>= fun y => lf (if 0 < y then some (x % y) else none)) (fun _ s => s) fun a8 => (bdo (fun s => s) (((((rd fun _ => a8) >>= fun x => (rd fun _ => a8) >>= fun y => lf (if CMul x y then some (x * y) else none)) >>= fun x => ((rd fun _ => a8) >>= fun x => (ret (7 : Int)) >>= fun y => lf (if CDiv x y then some (x / y) else none)) >>= fun y => lf (some (x + y))) >>= fun x => (rd fun _ => p_turn) >>= fun y => lf (some (x + y))) >>= fun x => (ret (1000000007 : Int)) >>= fun y => lf (if 0 < y then some (x % y) else none)) (fun _ s => s) fun a9 => (bdo (fun s => s) ((((rd fun _ => a9) >>= fun x => (ret (69621 : Int)) >>= fun y => lf (if CMul x y then some (x * y) else none)) >>= fun x => (ret (998244353 : Int)) >>= fun y => lf (if 0 < y then some (x % y) else none)) >>= fun x => (ret (11 : Int)) >>= fun y => lf (if CDiv x y then some (x / y) else none)) (fun _ s => s) fun a s => .ok a (s)))))
abbrev N__law_mixed : List Str := ["number", "turn", "one", "two"]
theorem Sc__law_mixed : FnScope N__law_mixed ["number", "turn"] (defScope s15) := ⟨rfl, rfl, rfl, by decide +kernel, rfl, by decide +kernel, by decide +kernel⟩
theorem bo__law_mixed (T : Txt K mg) {cdv : Value} {A : Around} {outer : List Env} {s0 : Shared} {H0 : Hp} {E : XK} (hr : Room 0 (Cb Pg w K mg base N__law_mixed "_law_mixed" (defScope s15) (He.ga K "_law_mixed") cdv A outer s0 H0 E).A) (tk : Takes (Cb Pg w K mg base N__law_mixed "_law_mixed" (defScope s15) (He.ga K "_law_mixed") cdv A outer s0 H0 E) (WF E)) (hp : PassesOwn (model Pg w) (Cb Pg w K mg base N__law_mixed "_law_mixed" (defScope s15) (He.ga K "_law_mixed") cdv A outer s0 H0 E).A (Cb Pg w K mg base N__law_mixed "_law_mixed" (defScope s15) (He.ga K "_law_mixed") cdv A outer s0 H0 E).env (Cb Pg w K mg base N__law_mixed "_law_mixed" (defScope s15) (He.ga K "_law_mixed") cdv A outer s0 H0 E).xe) (p_number : Int) (p_turn : Int) :
    Bl (Cb Pg w K mg base N__law_mixed "_law_mixed" (defScope s15) (He.ga K "_law_mixed") cdv A outer s0 H0 E) (WF E) (fun (s : Unit) => [aInt p_number, aInt p_turn, aNo, aNo]) (defBody s15) (m__law_mixed p_number p_turn) (fun b _ => .rt (aInt b) [] []) (ehF mg K (fun _ => []) []) :=
  (by refine (bl_set (Γ2 := fun (a7 : Int) (s : Unit) => [aInt p_number, aInt p_turn, aInt a7, aNo]) 2 ?_ eh0 ?_ (fun _ _ => rfl) (Sc__law_mixed).nd); (refine (ex_op op_mod o_intC ?_ ex_int); (refine (ex_op op_add o_int ?_ ex_int); (refine (ex_op op_add o_int ?_ ?_); (refine (ex_op op_mod o_intC ?_ ex_int); (refine (ex_callT call_int1 b_int T.n_int ?_); (refine (ea_cons (P := aInt) (Lb := (fun z : Unit => [])) ?_ ea_nil); (exact (ex_var (P := aInt) (f := fun _ => p_number) 0 (fun _ => rfl)))))); (refine (ex_op op_mul o_intC ?_ ex_int); (exact (ex_var (P := aInt) (f := fun _ => p_turn) 1 (fun _ => rfl))))))); (exact (fun a7 => (by refine (bl_set (Γ2 := fun (a8 : Int) (s : Unit) => [aInt p_number, aInt p_turn, aInt a8, aNo]) 2 ?_ eh0 ?_ (fun _ _ => rfl) (Sc__law_mixed).nd); (refine (ex_op op_mod o_intC ?_ ex_int); (refine (ex_op op_mul o_intC ?_ ex_int); (exact (ex_var (P := aInt) (f := fun _ => a7) 2 (fun _ => rfl))))); (exact (fun a8 => (by refine (bl_set (Γ2 := fun (a9 : Int) (s : Unit) => [aInt p_number, aInt p_turn, aInt a8, aInt a9]) 3 ?_ eh0 ?_ (fun _ _ => rfl) (Sc__law_mixed).nd); (refine (ex_op op_mod o_intC ?_ ex_int); (refine (ex_op op_add o_int ?_ ?_); (refine (ex_op op_add o_int ?_ ?_); (refine (ex_op op_mul o_intC ?_ ?_); (exact (ex_var (P := aInt) (f := fun _ => a8) 2 (fun _ => rfl))); (exact (ex_var (P := aInt) (f := fun _ => a8) 2 (fun _ => rfl)))); (refine (ex_op op_fdiv o_intC ?_ ex_int); (exact (ex_var (P := aInt) (f := fun _ => a8) 2 (fun _ => rfl))))); (exact (ex_var (P := aInt) (f := fun _ => p_turn) 1 (fun _ => rfl))))); (exact (fun a9 => (by refine (bl_ret (g := fun a => a) ?_ eh0 io0 (fun _ _ => rfl)); (refine (ex_op op_fdiv o_intC ?_ ex_int); (refine (ex_op op_mod o_intC ?_ ex_int); (refine (ex_op op_mul o_intC ?_ ex_int); (exact (ex_var (P := aInt) (f := fun _ => a9) 3 (fun _ => rfl))))))))))))))))
theorem ok__law_mixed (T : Txt K mg) : FnOk Pg w K mg base (L2.CX Pg w) 1 (He.ga K "_law_mixed") (T.F__law_mixed).choose ["number", "turn"] (spC mg K (fun y : (Int × (Int × Unit)) => [aInt y.1, aInt y.2.1]) [] aInt (fun _ => []) fun y => m__law_mixed y.1 y.2.1 ()) :=
  fn0 (pin := fun y : (Int × (Int × Unit)) => [aInt y.1, aInt y.2.1]) (m := fun y => m__law_mixed y.1 y.2.1) (Γ := fun y (s : Unit) => [aInt y.1, aInt y.2.1, aNo, aNo]) (T.F__law_mixed).choose_spec Sc__law_mixed (fun _ => rfl) (fun _ => rfl) fun cdv A outer s H E hr tk hp y => bo__law_mixed T hr tk hp y.1 y.2.1
theorem b__law_mixed (T : Txt K mg) : Binds K (T.F__law_mixed).choose ["number", "turn"] [] := FunD.bindsN (T.F__law_mixed).choose_spec fun _ _ _ _ _ _ us hl => match us, hl with | [_, _], _ => rfl
theorem Txt.kp__law_mixed (T : Txt K mg) : PySem.W.keepIn K (.ref (He.ga K "_law_mixed")) = true := (T.F__law_mixed).choose_spec.kp
def m__law_store (p_script : (List Int)) : M Unit Store := (bdo (fun s => s) (((((rd fun _ => p_script) >>= fun x => ret () >>= fun y => ret (x, y)) >>= fun y => lf (some y.1)) >>= fun x => (ret none) >>= fun i => ((ret (63 : Int)) >>= fun i => ret (some i)) >>= fun j => lf (cutL x i j)) >>= fun xs => mpM (fun x10 => (((rd fun _ => x10) >>= fun x => (ret ()) >>= fun y => ret (x, y)) >>= fun y => lf (some y.1))) xs) (fun _ s => s) fun a11 => (bdo (fun s => s) (ret (17 : Int)) (fun _ s => s) fun a12 => (bdo (fun s => s) (((rd fun _ => a11) >>= fun x => ret () >>= fun y => ret (x, y)) >>= fun y => lf (some y.1)) (fun _ s => s) fun xs => bdo (fun s => s) (forN (fun (g14 : (Int × Unit)) (x13 : Int) => (bdo (fun s => s) (((((rd fun _ => g14.1) >>= fun x => (ret (31337 : Int)) >>= fun y => lf (if CMul x y then some (x * y) else none)) >>= fun x => ((((rd fun _ => x13) >>= fun x => (ret ()) >>= fun y => ret (x, y)) >>= fun y => lf (some y.1)) >>= fun x => (ret (1000000007 : Int)) >>= fun y => lf (if 0 < y then some (x % y) else none)) >>= fun y => lf (some (x + y))) >>= fun x => (ret (1 : Int)) >>= fun y => lf (some (x + y))) >>= fun x => (ret (2147483647 : Int)) >>= fun y => lf (if 0 < y then some (x % y) else none)) (fun _ s => s) fun a15 => (fun s => .ok (a15, ()) (s)))) xs (a12, ())) (fun _ s => s) fun (g14 : (Int × Unit)) => (bdo (fun s => s) (rd fun _ => Store.mk a11 0 0 0 0 0 g14.1) (fun _ s => s) fun a s => .ok a (s)))))
abbrev N__law_store : List Str := ["script", "cells", "seed", "cell"]
theorem Sc__law_store : FnScope N__law_store ["script"] (defScope s16) := ⟨rfl, rfl, rfl, by decide +kernel, rfl, by decide +kernel, by decide +kernel⟩
theorem bo__law_store (T : Txt K mg) {cdv : Value} {A : Around} {outer : List Env} {s0 : Shared} {H0 : Hp} {E : XK} (hr : Room 0 (Cb Pg w K mg base N__law_store "_law_store" (defScope s16) (He.ga K "_law_store") cdv A outer s0 H0 E).A) (tk : Takes (Cb Pg w K mg base N__law_store "_law_store" (defScope s16) (He.ga K "_law_store") cdv A outer s0 H0 E) (WF E)) (hp : PassesOwn (model Pg w) (Cb Pg w K mg base N__law_store "_law_store" (defScope s16) (He.ga K "_law_store") cdv A outer s0 H0 E).A (Cb Pg w K mg base N__law_store "_law_store" (defScope s16) (He.ga K "_law_store") cdv A outer s0 H0 E).env (Cb Pg w K mg base N__law_store "_law_store" (defScope s16) (He.ga K "_law_store") cdv A outer s0 H0 E).xe) (p_script : (List Int)) :
    Bl (Cb Pg w K mg base N__law_store "_law_store" (defScope s16) (He.ga K "_law_store") cdv A outer s0 H0 E) (WF E) (fun (s : Unit) => [(aF aInt) p_script, aNo, aNo, aNo]) (defBody s16) (m__law_store p_script) (fun b _ => .rt (aStore b) [] []) (ehF mg K (fun _ => []) []) :=
  (by refine (bl_setLc (Γ2 := fun (a11 : (List Int)) (s : Unit) => [(aF aInt) p_script, (aF aInt) a11, aNo, aNo]) 1 ?_ eh0 ?_ (fun _ _ => rfl) rfl); (refine (LcJ.frz (P := (aL aInt)) ?_ fun _ => frz_list); (refine (lcj [("cell", 3)] (fun (x10 : Int) (s : Unit) => [(aF aInt) p_script, aNo, aNo, aInt x10]) ?_ (fun _ _ _ _ _ => (tg_name (P := aInt) 3 (Sc__law_store).nd)) (fun _ _ => rfl) ?_ (fun _ => inferInstance) (by decide) (un_cons (fun _ => rfl) un_nil) rfl (Sc__law_store).nd (blkOk_by rfl)); (refine (es_own ?_); (refine (ex_slice sl_list (o_cutL (Pa := (aL aInt)) rd_own) ?_ eo_none ?_); (refine (ex_callT call_list_of (b_list (P := aInt) (Pa := (aF aInt)) (fun _ => inferInstance)) T.n_list ?_); (refine (ea_cons (P := (aF aInt)) (Lb := (fun _ : Unit => [])) ?_ ea_nil); (exact (ex_var (P := (aF aInt)) (f := fun _ => p_script) 0 (fun _ => rfl))))); (exact (eo_some ex_int)))); (exact (fun _ _ _ _ _ x10 => (by refine (ex_callT call_int1 b_int T.n_int ?_); (refine (ea_cons (P := aInt) (Lb := (fun z : Unit => [])) ?_ ea_nil); (exact (ex_var (P := aInt) (f := fun _ => x10) 3 (fun _ => rfl))))))))); (exact (fun a11 => (by refine (bl_set (Γ2 := fun (a12 : Int) (s : Unit) => [(aF aInt) p_script, (aF aInt) a11, aInt a12, aNo]) 2 ex_int eh0 ?_ (fun _ _ => rfl) (Sc__law_store).nd); (exact (fun a12 => (by refine (bl_for (g0 := (a12, ())) (L := fun (g14 : (Int × Unit)) (s : Unit) => [aNo, (aF aInt) a11, aInt g14.1, aNo]) (Γb := fun (g14 : (Int × Unit)) (x13 : Int) (s : Unit) => [aNo, (aF aInt) a11, aInt g14.1, aInt x13]) ?_ eh0 (tg_name (P := aInt) 3 (Sc__law_store).nd) (fun _ => (.no (.same (.same (.same .nil))))) (fun _ _ _ => rfl) ehq ?_ ?_ hp rfl); (refine (es_own ?_); (refine (ex_callT call_list_of (b_list (P := aInt) (Pa := (aF aInt)) (fun _ => inferInstance)) T.n_list ?_); (refine (ea_cons (P := (aF aInt)) (Lb := (fun _ : Unit => [])) ?_ ea_nil); (exact (ex_var (P := (aF aInt)) (f := fun _ => a11) 1 (fun _ => rfl)))))); (exact (fun g14 x13 => (by refine (bl_set (Γ2 := fun (a15 : Int) (s : Unit) => [aNo, (aF aInt) a11, aInt a15, aInt x13]) 2 ?_ eh0 (fun a15 => (bl_nil (g := fun (s : Unit) => (a15, ())) (fun _ => rfl) (fun _ => rfl) (fun _ => (.same (.same (.same (.no .nil))))))) (fun _ _ => rfl) (Sc__law_store).nd); (refine (ex_op op_mod o_intC ?_ ex_int); (refine (ex_op op_add o_int ?_ ex_int); (refine (ex_op op_add o_int ?_ ?_); (refine (ex_op op_mul o_intC ?_ ex_int); (exact (ex_var (P := aInt) (f := fun _ => g14.1) 2 (fun _ => rfl)))); (refine (ex_op op_mod o_intC ?_ ex_int); (refine (ex_callT call_int1 b_int T.n_int ?_); (refine (ea_cons (P := aInt) (Lb := (fun z : Unit => [])) ?_ ea_nil); (exact (ex_var (P := aInt) (f := fun _ => x13) 3 (fun _ => rfl)))))))))))); (exact (fun g14 => (by refine (bl_ret (g := fun a => a) ?_ eh0 io0 (fun _ _ => rfl)); (exact (ex_store (f := fun _ => a11) (g := fun _ => g14.1) 1 2 (fun _ => rfl) (fun _ => rfl)))))))))))))
theorem ok__law_store (T : Txt K mg) : FnOk Pg w K mg base (L2.CX Pg w) 1 (He.ga K "_law_store") (T.F__law_store).choose ["script"] (spC mg K (fun y : ((List Int) × Unit) => [(aF aInt) y.1]) [] aStore (fun _ => []) fun y => m__law_store y.1 ()) :=
  fn0 (pin := fun y : ((List Int) × Unit) => [(aF aInt) y.1]) (m := fun y => m__law_store y.1) (Γ := fun y (s : Unit) => [(aF aInt) y.1, aNo, aNo, aNo]) (T.F__law_store).choose_spec Sc__law_store (fun _ => rfl) (fun _ => rfl) fun cdv A outer s H E hr tk hp y => bo__law_store T hr tk hp y.1
theorem b__law_store (T : Txt K mg) : Binds K (T.F__law_store).choose ["script"] [] := FunD.bindsN (T.F__law_store).choose_spec fun _ _ _ _ _ _ us hl => match us, hl with | [_], _ => rfl
theorem Txt.kp__law_store (T : Txt K mg) : PySem.W.keepIn K (.ref (He.ga K "_law_store")) = true := (T.F__law_store).choose_spec.kp
def m__law_take (p_many : Int) : M Store Int := (bdo (fun s => s) ((rd fun _ => p_many) >>= fun x => (ret (2 : Int)) >>= fun y => lf (some (decide (x < y)))) (fun _ s => s) fun k => if k = true then (bdo (fun s => s) (ret (0 : Int)) (fun _ s => s) fun a s => .ok a (s)) else (bdo (fun s => s) ((rd fun s => Fl.turn.get s) >>= fun x => (ret (1 : Int)) >>= fun y => lf (some (x + y))) (fun a s => Fl.turn.set s a) fun a16 => (bdo (fun s => s) (((rd fun s => Fl.rest.get s) >>= fun x => (ret (2 : Int)) >>= fun y => lf (some (decide (x < y)))) >>= fun c => if c = true then (((rd fun s => Fl.left.get s) >>= fun x => (ret (1 : Int)) >>= fun y => lf (some (decide (x < y)))) >>= fun c => if c = true then ((rd fun s => Fl.at_.get s) >>= fun x => (((rd fun s => (s).cells) >>= fun x => (ret ()) >>= fun y => ret (x, y)) >>= fun y => lf (some (y.1.length : Int))) >>= fun y => lf (some (decide (x < y)))) else ret false) else ret false) (fun _ s => s) fun k => bdo (fun s => s) (if k = true then (bdo (fun s => s) ((((rd fun s => (s).cells) >>= fun x => (rd fun s => Fl.at_.get s) >>= fun y => lf (atI x y)) >>= fun x => (ret ()) >>= fun y => ret (x, y)) >>= fun y => lf (some y.1)) (fun _ s => s) fun a18 => (bdo (fun s => s) ((rd fun s => Fl.at_.get s) >>= fun x => (ret (1 : Int)) >>= fun y => lf (some (x + y))) (fun a s => Fl.at_.set s a) fun a19 => (bdo (fun s => s) ((((rd fun _ => a18) >>= fun x => (ret ()) >>= fun y => ret (x, y)) >>= fun y => lf (some (if y.1 < 0 then -y.1 else y.1))) >>= fun x => ((ret (10 : Int)) >>= fun x => (ret (18 : Int)) >>= fun y => lf (if CPow x y then some (x ^ y.toNat) else none)) >>= fun y => lf (some (decide (x < y)))) (fun _ s => s) fun k => bdo (fun s => s) (if k = true then (bdo (fun s => s) (rd fun _ => a18) (fun a s => Fl.small.set s a) fun a21 => (bdo (fun s => s) (ret (4 : Int)) (fun a s => Fl.left.set s a) fun a22 => (fun s => .ok () (s)))) else (bdo (fun s => s) ((((rd fun _ => a18) >>= fun x => (ret ()) >>= fun y => ret (x, y)) >>= fun y => lf (some y.1)) >>= fun x => (((ret (10 : Int)) >>= fun x => (ret (64 : Int)) >>= fun y => lf (if CPow x y then some (x ^ y.toNat) else none)) >>= fun x => ((ret (10 : Int)) >>= fun x => (ret (64 : Int)) >>= fun y => lf (if CPow x y then some (x ^ y.toNat) else none)) >>= fun y => lf (if CMulW x y then some (x * y) else none)) >>= fun y => lf (if 0 < y then some (x % y) else none)) (fun a s => Fl.rest.set s a) fun a23 => (fun s => .ok () (s)))) (fun _ s => s) fun (g20 : Unit) => (fun s => .ok () (s))))) else (fun s => .ok () (s))) (fun _ s => s) fun (g17 : Unit) => (bdo (fun s => s) ((rd fun s => Fl.rest.get s) >>= fun x => (ret (1 : Int)) >>= fun y => lf (some (decide (y < x)))) (fun _ s => s) fun k => if k = true then (bdo (fun s => s) ((((rd fun s => Fl.rest.get s) >>= fun x => (ret ()) >>= fun y => ret (x, y)) >>= fun y => lf (some y.1)) >>= fun x => (rd fun _ => p_many) >>= fun y => lf (if 0 < y then some (x % y) else none)) (fun _ s => s) fun a24 => (bdo (fun s => s) ((((rd fun s => Fl.rest.get s) >>= fun x => (ret ()) >>= fun y => ret (x, y)) >>= fun y => lf (some y.1)) >>= fun x => (rd fun _ => p_many) >>= fun y => lf (if CDiv x y then some (x / y) else none)) (fun a s => Fl.rest.set s a) fun a25 => (bdo (fun s => s) (rd fun _ => a24) (fun _ s => s) fun a s => .ok a (s)))) else (bdo (fun s => s) ((rd fun s => Fl.left.get s) >>= fun x => (ret (0 : Int)) >>= fun y => lf (some (decide (y < x)))) (fun _ s => s) fun k => if k = true then (bdo (fun s => s) ((rd fun s => Fl.left.get s) >>= fun x => (ret (1 : Int)) >>= fun y => lf (some (x - y))) (fun a s => Fl.left.set s a) fun a26 => (bdo (fun s => s) ((((((rd fun s => Fl.small.get s) >>= fun x => ((rd fun s => Fl.turn.get s) >>= fun x => (ret ()) >>= fun y => ret (x, y)) >>= fun y => ret (x, y)) >>= fun y => cpu (m__law_mixed y.1 y.2.1 ())) >>= fun x => (ret ()) >>= fun y => ret (x, y)) >>= fun y => lf (some y.1)) >>= fun x => (rd fun _ => p_many) >>= fun y => lf (if 0 < y then some (x % y) else none)) (fun _ s => s) fun a s => .ok a (s))) else (bdo (fun s => s) ((((((rd fun s => Fl.seed.get s) >>= fun x => ((rd fun s => Fl.turn.get s) >>= fun x => (ret ()) >>= fun y => ret (x, y)) >>= fun y => ret (x, y)) >>= fun y => cpu (m__law_mixed y.1 y.2.1 ())) >>= fun x => (ret ()) >>= fun y => ret (x, y)) >>= fun y => lf (some y.1)) >>= fun x => (rd fun _ => p_many) >>= fun y => lf (if 0 < y then some (x % y) else none)) (fun _ s => s) fun a s => .ok a (s)))))))
abbrev N__law_take : List Str := ["store", "many", "cell", "digit"]
theorem Sc__law_take : FnScope N__law_take ["store", "many"] (defScope s17) := ⟨rfl, rfl, rfl, by decide +kernel, rfl, by decide +kernel, by decide +kernel⟩
theorem bo__law_take (T : Txt K mg) {cdv : Value} {A : Around} {outer : List Env} {s0 : Shared} {H0 : Hp} {E : XK} (hr : Room 1 (Cb Pg w K mg base N__law_take "_law_take" (defScope s17) (He.ga K "_law_take") cdv A outer s0 H0 E).A) (tk : Takes (Cb Pg w K mg base N__law_take "_law_take" (defScope s17) (He.ga K "_law_take") cdv A outer s0 H0 E) (WF E)) (hp : PassesOwn (model Pg w) (Cb Pg w K mg base N__law_take "_law_take" (defScope s17) (He.ga K "_law_take") cdv A outer s0 H0 E).A (Cb Pg w K mg base N__law_take "_law_take" (defScope s17) (He.ga K "_law_take") cdv A outer s0 H0 E).env (Cb Pg w K mg base N__law_take "_law_take" (defScope s17) (He.ga K "_law_take") cdv A outer s0 H0 E).xe) (v0 : V) (p_many : Int) :
    Bl (Cb Pg w K mg base N__law_take "_law_take" (defScope s17) (He.ga K "_law_take") cdv A outer s0 H0 E) (WF E) (fun (s : Store) => [aAt v0 (aStore s), aInt p_many, aNo, aNo]) (defBody s17) (m__law_take p_many) (fun b u => .rt (aInt b) [aStore u] [v0]) (ehF mg K (fun w => [aStore w]) [v0]) :=
  (by refine (bl_ifT ?_ (io1 (A := fun (w : Store) => aStore (w)) 0 (fun _ => rfl)).eh ?_ ?_ nonx); (refine (et_cmp op_lt o_cmpI ?_ ex_int); (exact (ex_var (P := aInt) (f := fun _ => p_many) 1 (fun _ => rfl)))); (exact (bl_ret (g := fun a => a) ex_int (io1 (A := fun (w : Store) => aStore (w)) 0 (fun _ => rfl)).eh (io1 (A := fun (w : Store) => aStore (w)) 0 (fun _ => rfl)) (fun _ _ => rfl))); (refine (bl_stP (get := fun (s : Store) => s) (mk := fun a (s : Store) => Fl.turn.set s a) 0 .turn ?_ (io1 (A := fun (w : Store) => aStore (w)) 0 (fun _ => rfl)).eh ?_ (fun _ => rfl) (fun _ _ => rfl) (G.hu_of hr)); (refine (ex_op op_add o_int ?_ ex_int); (exact (ex_stI (get := fun (s : Store) => s) 0 .turn (fun _ => rfl) (G.hu_of hr)))); (exact (fun a16 => (by refine (bl_ifJ (L := fun (g17 : Unit) (s : Store) => [aAt v0 (aStore s), aInt p_many, aNo, aNo]) ?_ (io1 (A := fun (w : Store) => aStore (w)) 0 (fun _ => rfl)).eh ?_ (bl_nil (g := fun (s : Store) => ()) (fun _ => rfl) (fun _ => rfl) (fun _ => (.same (.same (.same (.same .nil)))))) ?_); (refine (Ew.et ?_); (refine (ew_and ?_ ?_); (refine (et_cmp op_lt o_cmpI ?_ ex_int); (exact (ex_stI (get := fun (s : Store) => s) 0 .rest (fun _ => rfl) (G.hu_of hr)))); (refine (ew_and ?_ ?_); (refine (et_cmp op_lt o_cmpI ?_ ex_int); (exact (ex_stI (get := fun (s : Store) => s) 0 .left (fun _ => rfl) (G.hu_of hr)))); (refine (ew_and1 ?_); (refine (et_cmp op_lt o_cmpI ?_ ?_); (exact (ex_stI (get := fun (s : Store) => s) 0 .at_ (fun _ => rfl) (G.hu_of hr))); (refine (ex_callB call_len_seq (b_lenQ (P := aInt) (Pa := (aF aInt)) (xs := fun x => x) (fun _ => inferInstance)) T.n_len ?_); (refine (ea_cons (P := (aF aInt)) (Lb := (fun z : Unit => [])) ?_ ea_nil); (exact (ex_stC (get := fun (s : Store) => s) 0 (fun _ => rfl) (G.hu_of hr)))))))))); (refine (bl_set (Γ2 := fun (a18 : Int) (s : Store) => [aAt v0 (aStore s), aInt p_many, aInt a18, aNo]) 2 ?_ (io1 (A := fun (w : Store) => aStore (w)) 0 (fun _ => rfl)).eh ?_ (fun _ _ => rfl) (Sc__law_take).nd); (refine (ex_callT call_int1 b_int T.n_int ?_); (refine (ea_cons (P := aInt) (Lb := (fun z : Unit => [])) ?_ ea_nil); (refine (ex_ix ix_any (o_ixR (Pa := (aF aInt)) (P := aInt) (fun _ => inferInstance) (fun _ => inferInstance)) ?_ ?_); (exact (ex_stC (get := fun (s : Store) => s) 0 (fun _ => rfl) (G.hu_of hr))); (exact (ex_stI (get := fun (s : Store) => s) 0 .at_ (fun _ => rfl) (G.hu_of hr)))))); (exact (fun a18 => (by refine (bl_stP (get := fun (s : Store) => s) (mk := fun a (s : Store) => Fl.at_.set s a) 0 .at_ ?_ (io1 (A := fun (w : Store) => aStore (w)) 0 (fun _ => rfl)).eh ?_ (fun _ => rfl) (fun _ _ => rfl) (G.hu_of hr)); (refine (ex_op op_add o_int ?_ ex_int); (exact (ex_stI (get := fun (s : Store) => s) 0 .at_ (fun _ => rfl) (G.hu_of hr)))); (exact (fun a19 => (by refine (bl_ifJ (L := fun (g20 : Unit) (s : Store) => [aAt v0 (aStore s), aInt p_many, aNo, aNo]) ?_ (io1 (A := fun (w : Store) => aStore (w)) 0 (fun _ => rfl)).eh ?_ ?_ (fun g20 => (bl_nil (g := fun (s : Store) => ()) (fun _ => rfl) (fun _ => rfl) (fun _ => (.same (.same (.same (.same .nil)))))))); (refine (et_cmp op_lt o_cmpI ?_ ?_); (refine (ex_callB call_abs b_abs T.n_abs ?_); (refine (ea_cons (P := aInt) (Lb := (fun z : Unit => [])) ?_ ea_nil); (exact (ex_var (P := aInt) (f := fun _ => a18) 2 (fun _ => rfl))))); (exact (ex_op op_pow o_intC ex_int ex_int))); (refine (bl_stP (get := fun (s : Store) => s) (mk := fun a (s : Store) => Fl.small.set s a) 0 .small ?_ (io1 (A := fun (w : Store) => aStore (w)) 0 (fun _ => rfl)).eh ?_ (fun _ => rfl) (fun _ _ => rfl) (G.hu_of hr)); (exact (ex_var (P := aInt) (f := fun _ => a18) 2 (fun _ => rfl))); (exact (fun a21 => (by exact (bl_stP (get := fun (s : Store) => s) (mk := fun a (s : Store) => Fl.left.set s a) 0 .left ex_int (io1 (A := fun (w : Store) => aStore (w)) 0 (fun _ => rfl)).eh (fun a22 => (bl_nil (g := fun (s : Store) => ()) (fun _ => rfl) (fun _ => rfl) (fun _ => (.same (.same (.no (.same .nil))))))) (fun _ => rfl) (fun _ _ => rfl) (G.hu_of hr)))))); (refine (bl_stP (get := fun (s : Store) => s) (mk := fun a (s : Store) => Fl.rest.set s a) 0 .rest ?_ (io1 (A := fun (w : Store) => aStore (w)) 0 (fun _ => rfl)).eh (fun a23 => (bl_nil (g := fun (s : Store) => ()) (fun _ => rfl) (fun _ => rfl) (fun _ => (.same (.same (.no (.same .nil))))))) (fun _ => rfl) (fun _ _ => rfl) (G.hu_of hr)); (refine (ex_op op_mod o_intC ?_ ?_); (refine (ex_callT call_int1 b_int T.n_int ?_); (refine (ea_cons (P := aInt) (Lb := (fun z : Unit => [])) ?_ ea_nil); (exact (ex_var (P := aInt) (f := fun _ => a18) 2 (fun _ => rfl))))); (refine (ex_op op_mulW o_intC ?_ ?_); (exact (ex_op op_pow o_intC ex_int ex_int)); (exact (ex_op op_pow o_intC ex_int ex_int)))))))))))); (exact (fun g17 => (by refine (bl_ifT ?_ (io1 (A := fun (w : Store) => aStore (w)) 0 (fun _ => rfl)).eh ?_ ?_ nonx); (refine (et_cmp op_gt o_cmpI ?_ ex_int); (exact (ex_stI (get := fun (s : Store) => s) 0 .rest (fun _ => rfl) (G.hu_of hr)))); (refine (bl_set (Γ2 := fun (a24 : Int) (s : Store) => [aAt v0 (aStore s), aInt p_many, aNo, aInt a24]) 3 ?_ (io1 (A := fun (w : Store) => aStore (w)) 0 (fun _ => rfl)).eh ?_ (fun _ _ => rfl) (Sc__law_take).nd); (refine (ex_op op_mod o_intC ?_ ?_); (refine (ex_callT call_int1 b_int T.n_int ?_); (refine (ea_cons (P := aInt) (Lb := (fun z : Unit => [])) ?_ ea_nil); (exact (ex_stI (get := fun (s : Store) => s) 0 .rest (fun _ => rfl) (G.hu_of hr))))); (exact (ex_var (P := aInt) (f := fun _ => p_many) 1 (fun _ => rfl)))); (exact (fun a24 => (by refine (bl_stP (get := fun (s : Store) => s) (mk := fun a (s : Store) => Fl.rest.set s a) 0 .rest ?_ (io1 (A := fun (w : Store) => aStore (w)) 0 (fun _ => rfl)).eh ?_ (fun _ => rfl) (fun _ _ => rfl) (G.hu_of hr)); (refine (ex_op op_fdiv o_intC ?_ ?_); (refine (ex_callT call_int1 b_int T.n_int ?_); (refine (ea_cons (P := aInt) (Lb := (fun z : Unit => [])) ?_ ea_nil); (exact (ex_stI (get := fun (s : Store) => s) 0 .rest (fun _ => rfl) (G.hu_of hr))))); (exact (ex_var (P := aInt) (f := fun _ => p_many) 1 (fun _ => rfl)))); (exact (fun a25 => (by refine (bl_ret (g := fun a => a) ?_ (io1 (A := fun (w : Store) => aStore (w)) 0 (fun _ => rfl)).eh (io1 (A := fun (w : Store) => aStore (w)) 0 (fun _ => rfl)) (fun _ _ => rfl)); (exact (ex_var (P := aInt) (f := fun _ => a24) 3 (fun _ => rfl)))))))))); (refine (bl_ifT ?_ (io1 (A := fun (w : Store) => aStore (w)) 0 (fun _ => rfl)).eh ?_ ?_ nonx); (refine (et_cmp op_gt o_cmpI ?_ ex_int); (exact (ex_stI (get := fun (s : Store) => s) 0 .left (fun _ => rfl) (G.hu_of hr)))); (refine (bl_stP (get := fun (s : Store) => s) (mk := fun a (s : Store) => Fl.left.set s a) 0 .left ?_ (io1 (A := fun (w : Store) => aStore (w)) 0 (fun _ => rfl)).eh ?_ (fun _ => rfl) (fun _ _ => rfl) (G.hu_of hr)); (refine (ex_op op_sub o_int ?_ ex_int); (exact (ex_stI (get := fun (s : Store) => s) 0 .left (fun _ => rfl) (G.hu_of hr)))); (exact (fun a26 => (by refine (bl_ret (g := fun a => a) ?_ (io1 (A := fun (w : Store) => aStore (w)) 0 (fun _ => rfl)).eh (io1 (A := fun (w : Store) => aStore (w)) 0 (fun _ => rfl)) (fun _ _ => rfl)); (refine (ex_op op_mod o_intC ?_ ?_); (refine (ex_callT call_int1 b_int T.n_int ?_); (refine (ea_cons (P := aInt) (Lb := (fun z : Unit => [])) ?_ ea_nil); (refine (ex_call0 (kx := fun y : (Int × (Int × Unit)) => y) (fm := fun y : (Int × (Int × Unit)) => m__law_mixed y.1 y.2.1 ()) (ok__law_mixed T) (hr.mono (by decide)) tk T.g__law_mixed T.kp__law_mixed (b__law_mixed T) ?_ (fun _ => rfl)); (refine (ea_cons (P := aInt) (Lb := (fun z : (Int × Unit) => [aInt z.1])) ?_ ?_); (exact (ex_stI (get := fun (s : Store) => s) 0 .small (fun _ => rfl) (G.hu_of hr))); (refine (ea_cons (P := aInt) (Lb := (fun z : Unit => [])) ?_ ea_nil); (exact (ex_stI (get := fun (s : Store) => s) 0 .turn (fun _ => rfl) (G.hu_of hr)))))))); (exact (ex_var (P := aInt) (f := fun _ => p_many) 1 (fun _ => rfl)))))))); (refine (bl_ret (g := fun a => a) ?_ (io1 (A := fun (w : Store) => aStore (w)) 0 (fun _ => rfl)).eh (io1 (A := fun (w : Store) => aStore (w)) 0 (fun _ => rfl)) (fun _ _ => rfl)); (refine (ex_op op_mod o_intC ?_ ?_); (refine (ex_callT call_int1 b_int T.n_int ?_); (refine (ea_cons (P := aInt) (Lb := (fun z : Unit => [])) ?_ ea_nil); (refine (ex_call0 (kx := fun y : (Int × (Int × Unit)) => y) (fm := fun y : (Int × (Int × Unit)) => m__law_mixed y.1 y.2.1 ()) (ok__law_mixed T) (hr.mono (by decide)) tk T.g__law_mixed T.kp__law_mixed (b__law_mixed T) ?_ (fun _ => rfl)); (refine (ea_cons (P := aInt) (Lb := (fun z : (Int × Unit) => [aInt z.1])) ?_ ?_); (exact (ex_stI (get := fun (s : Store) => s) 0 .seed (fun _ => rfl) (G.hu_of hr))); (refine (ea_cons (P := aInt) (Lb := (fun z : Unit => [])) ?_ ea_nil); (exact (ex_stI (get := fun (s : Store) => s) 0 .turn (fun _ => rfl) (G.hu_of hr)))))))); (exact (ex_var (P := aInt) (f := fun _ => p_many) 1 (fun _ => rfl))))))))))))))
theorem ok__law_take (T : Txt K mg) : FnOk Pg w K mg base (L2.CX Pg w) 2 (He.ga K "_law_take") (T.F__law_take).choose ["store", "many"] (spC mg K (fun y : (Store × (Int × Unit)) => [aStore y.1, aInt y.2.1]) [0] aInt (fun w => [aStore w]) fun y => m__law_take y.2.1 y.1) :=
  fn1 0 (pin := fun y : (Store × (Int × Unit)) => [aStore y.1, aInt y.2.1]) (A := aStore) (get := fun y => y.1) (m := fun y => m__law_take y.2.1) (Γ := fun v0 y (s : Store) => [aAt v0 (aStore s), aInt y.2.1, aNo, aNo]) (T.F__law_take).choose_spec Sc__law_take (fun _ => rfl) (fun _ => rfl) (fun _ _ => rfl) fun cdv A outer s H E hr tk hp v0 y => bo__law_take T hr tk hp v0 y.2.1
theorem b__law_take (T : Txt K mg) : Binds K (T.F__law_take).choose ["store", "many"] [] := FunD.bindsN (T.F__law_take).choose_spec fun _ _ _ _ _ _ us hl => match us, hl with | [_, _], _ => rfl
theorem Txt.kp__law_take (T : Txt K mg) : PySem.W.keepIn K (.ref (He.ga K "_law_take")) = true := (T.F__law_take).choose_spec.kp
def m__law_pick {α : Type} (p_things : (List α)) : M Store α := (bdo (fun s => s) ((rd fun _ => p_things) >>= fun x => (((ret ()) >>= fun x => ((((rd fun _ => p_things) >>= fun x => (ret ()) >>= fun y => ret (x, y)) >>= fun y => lf (some (y.1.length : Int))) >>= fun x => (ret ()) >>= fun y => ret (x, y)) >>= fun y => ret (x, y)) >>= fun y => cio (fun s => s) (fun s w => w) fun w => m__law_take y.2.1 w) >>= fun y => lf (atI x y)) (fun _ s => s) fun a s => .ok a (s))
abbrev N__law_pick : List Str := ["store", "things"]
theorem Sc__law_pick : FnScope N__law_pick ["store", "things"] (defScope s18) := ⟨rfl, rfl, rfl, by decide +kernel, rfl, by decide +kernel, by decide +kernel⟩
theorem bo__law_pick {α : Type} {P : α → As} [hP : ∀ x, Pers (P x)] (T : Txt K mg) {cdv : Value} {A : Around} {outer : List Env} {s0 : Shared} {H0 : Hp} {E : XK} (hr : Room 2 (Cb Pg w K mg base N__law_pick "_law_pick" (defScope s18) (He.ga K "_law_pick") cdv A outer s0 H0 E).A) (tk : Takes (Cb Pg w K mg base N__law_pick "_law_pick" (defScope s18) (He.ga K "_law_pick") cdv A outer s0 H0 E) (WF E)) (hp : PassesOwn (model Pg w) (Cb Pg w K mg base N__law_pick "_law_pick" (defScope s18) (He.ga K "_law_pick") cdv A outer s0 H0 E).A (Cb Pg w K mg base N__law_pick "_law_pick" (defScope s18) (He.ga K "_law_pick") cdv A outer s0 H0 E).env (Cb Pg w K mg base N__law_pick "_law_pick" (defScope s18) (He.ga K "_law_pick") cdv A outer s0 H0 E).xe) (v0 : V) (p_things : (List α)) :
    Bl (Cb Pg w K mg base N__law_pick "_law_pick" (defScope s18) (He.ga K "_law_pick") cdv A outer s0 H0 E) (WF E) (fun (s : Store) => [aAt v0 (aStore s), (aR P) p_things]) (defBody s18) (m__law_pick p_things) (fun b u => .rt (P b) [aStore u] [v0]) (ehF mg K (fun w => [aStore w]) [v0]) :=
  (by refine (bl_ret (g := fun a => a) ?_ (io1 (A := fun (w : Store) => aStore (w)) 0 (fun _ => rfl)).eh (io1 (A := fun (w : Store) => aStore (w)) 0 (fun _ => rfl)) (fun _ _ => rfl)); (refine (ex_ix ix_any (o_ixR (Pa := (aR P)) (P := P) (fun _ => inferInstance) (fun _ => inferInstance)) ?_ ?_); (exact (ex_var (P := (aR P)) (f := fun _ => p_things) 1 (fun _ => rfl))); (refine (ex_call1 (La := (fun z : (Unit × (Int × Unit)) => [(fun _ : Unit => aV v0) z.1, aInt z.2.1])) (kx := (fun (y : (Unit × (Int × Unit))) (w : Store) => (w, (y.2.1, ())))) (fm := fun y : (Store × (Int × Unit)) => m__law_take y.2.1 y.1) (A := aStore) (get := (fun (s : Store) => s)) (put := (fun (s : Store) w => w)) 0 0 (ok__law_take T) (hr.mono (by decide)) tk T.g__law_take T.kp__law_take (b__law_take T) ?_ (fun _ => rfl) (fun _ _ => rfl) (fun _ => rfl) (fun _ _ => rfl)); (refine (ea_cons (P := (fun _ : Unit => aV v0)) (Lb := (fun z : (Int × Unit) => [aInt z.1])) (ex_ref (A := fun (s : Store) => aStore s) 0 (fun _ => rfl)) ?_); (refine (ea_cons (P := aInt) (Lb := (fun z : Unit => [])) ?_ ea_nil); (refine (ex_callB call_len_seq (b_lenQ (P := P) (Pa := (aR P)) (xs := fun x => x) (fun _ => inferInstance)) T.n_len ?_); (refine (ea_cons (P := (aR P)) (Lb := (fun z : Unit => [])) ?_ ea_nil); (exact (ex_var (P := (aR P)) (f := fun _ => p_things) 1 (fun _ => rfl))))))))))
theorem ok__law_pick {α : Type} {P : α → As} [hP : ∀ x, Pers (P x)] (T : Txt K mg) : FnOk Pg w K mg base (L2.CX Pg w) 3 (He.ga K "_law_pick") (T.F__law_pick).choose ["store", "things"] (spC mg K (fun y : (Store × ((List α) × Unit)) => [aStore y.1, (aR P) y.2.1]) [0] P (fun w => [aStore w]) fun y => m__law_pick y.2.1 y.1) :=
  fn1 0 (pin := fun y : (Store × ((List α) × Unit)) => [aStore y.1, (aR P) y.2.1]) (A := aStore) (get := fun y => y.1) (m := fun y => m__law_pick y.2.1) (Γ := fun v0 y (s : Store) => [aAt v0 (aStore s), (aR P) y.2.1]) (T.F__law_pick).choose_spec Sc__law_pick (fun _ => rfl) (fun _ => rfl) (fun _ _ => rfl) fun cdv A outer s H E hr tk hp v0 y => bo__law_pick T hr tk hp v0 y.2.1
theorem b__law_pick (T : Txt K mg) : Binds K (T.F__law_pick).choose ["store", "things"] [] := FunD.bindsN (T.F__law_pick).choose_spec fun _ _ _ _ _ _ us hl => match us, hl with | [_, _], _ => rfl
theorem Txt.kp__law_pick (T : Txt K mg) : PySem.W.keepIn K (.ref (He.ga K "_law_pick")) = true := (T.F__law_pick).choose_spec.kp
def m__law_edge (p_low : Int) (p_high : Int) : M Store Int := (bdo (fun s => s) ((rd fun _ => p_high) >>= fun x => (rd fun _ => p_low) >>= fun y => lf (some (decide (x ≤ y)))) (fun _ s => s) fun k => if k = true then (bdo (fun s => s) (rd fun _ => p_low) (fun _ s => s) fun a s => .ok a (s)) else (bdo (fun s => s) ((((ret ()) >>= fun x => ((ret (3 : Int)) >>= fun x => (ret ()) >>= fun y => ret (x, y)) >>= fun y => ret (x, y)) >>= fun y => cio (fun s => s) (fun s w => w) fun w => m__law_take y.2.1 w) >>= fun x => (ret (0 : Int)) >>= fun y => lf (some (decide (x = y)))) (fun _ s => s) fun k => if k = true then (bdo (fun s => s) ((rd fun _ => p_low) >>= fun x => (((rd fun _ => p_high) >>= fun x => (rd fun _ => p_low) >>= fun y => lf (some (x - y))) >>= fun x => (((ret ()) >>= fun x => ((ret (2 : Int)) >>= fun x => (ret ()) >>= fun y => ret (x, y)) >>= fun y => ret (x, y)) >>= fun y => cio (fun s => s) (fun s w => w) fun w => m__law_take y.2.1 w) >>= fun y => lf (if CMul x y then some (x * y) else none)) >>= fun y => lf (some (x + y))) (fun _ s => s) fun a s => .ok a (s)) else (bdo (fun s => s) ((rd fun _ => p_low) >>= fun x => (((ret ()) >>= fun x => ((((rd fun _ => p_high) >>= fun x => (rd fun _ => p_low) >>= fun y => lf (some (x - y))) >>= fun x => (ret (1 : Int)) >>= fun y => lf (some (x + y))) >>= fun x => (ret ()) >>= fun y => ret (x, y)) >>= fun y => ret (x, y)) >>= fun y => cio (fun s => s) (fun s w => w) fun w => m__law_take y.2.1 w) >>= fun y => lf (some (x + y))) (fun _ s => s) fun a s => .ok a (s))))
abbrev N__law_edge : List Str := ["store", "low", "high"]
theorem Sc__law_edge : FnScope N__law_edge ["store", "low", "high"] (defScope s19) := ⟨rfl, rfl, rfl, by decide +kernel, rfl, by decide +kernel, by decide +kernel⟩
theorem bo__law_edge (T : Txt K mg) {cdv : Value} {A : Around} {outer : List Env} {s0 : Shared} {H0 : Hp} {E : XK} (hr : Room 2 (Cb Pg w K mg base N__law_edge "_law_edge" (defScope s19) (He.ga K "_law_edge") cdv A outer s0 H0 E).A) (tk : Takes (Cb Pg w K mg base N__law_edge "_law_edge" (defScope s19) (He.ga K "_law_edge") cdv A outer s0 H0 E) (WF E)) (hp : PassesOwn (model Pg w) (Cb Pg w K mg base N__law_edge "_law_edge" (defScope s19) (He.ga K "_law_edge") cdv A outer s0 H0 E).A (Cb Pg w K mg base N__law_edge "_law_edge" (defScope s19) (He.ga K "_law_edge") cdv A outer s0 H0 E).env (Cb Pg w K mg base N__law_edge "_law_edge" (defScope s19) (He.ga K "_law_edge") cdv A outer s0 H0 E).xe) (v0 : V) (p_low : Int) (p_high : Int) :
    Bl (Cb Pg w K mg base N__law_edge "_law_edge" (defScope s19) (He.ga K "_law_edge") cdv A outer s0 H0 E) (WF E) (fun (s : Store) => [aAt v0 (aStore s), aInt p_low, aInt p_high]) (defBody s19) (m__law_edge p_low p_high) (fun b u => .rt (aInt b) [aStore u] [v0]) (ehF mg K (fun w => [aStore w]) [v0]) :=
  (by refine (bl_ifT ?_ (io1 (A := fun (w : Store) => aStore (w)) 0 (fun _ => rfl)).eh ?_ ?_ nonx); (refine (et_cmp op_le o_cmpI ?_ ?_); (exact (ex_var (P := aInt) (f := fun _ => p_high) 2 (fun _ => rfl))); (exact (ex_var (P := aInt) (f := fun _ => p_low) 1 (fun _ => rfl)))); (refine (bl_ret (g := fun a => a) ?_ (io1 (A := fun (w : Store) => aStore (w)) 0 (fun _ => rfl)).eh (io1 (A := fun (w : Store) => aStore (w)) 0 (fun _ => rfl)) (fun _ _ => rfl)); (exact (ex_var (P := aInt) (f := fun _ => p_low) 1 (fun _ => rfl)))); (refine (bl_ifT ?_ (io1 (A := fun (w : Store) => aStore (w)) 0 (fun _ => rfl)).eh ?_ ?_ nonx); (refine (et_cmp op_eq o_eqI ?_ ex_int); (refine (ex_call1 (La := (fun z : (Unit × (Int × Unit)) => [(fun _ : Unit => aV v0) z.1, aInt z.2.1])) (kx := (fun (y : (Unit × (Int × Unit))) (w : Store) => (w, (y.2.1, ())))) (fm := fun y : (Store × (Int × Unit)) => m__law_take y.2.1 y.1) (A := aStore) (get := (fun (s : Store) => s)) (put := (fun (s : Store) w => w)) 0 0 (ok__law_take T) (hr.mono (by decide)) tk T.g__law_take T.kp__law_take (b__law_take T) ?_ (fun _ => rfl) (fun _ _ => rfl) (fun _ => rfl) (fun _ _ => rfl)); (refine (ea_cons (P := (fun _ : Unit => aV v0)) (Lb := (fun z : (Int × Unit) => [aInt z.1])) (ex_ref (A := fun (s : Store) => aStore s) 0 (fun _ => rfl)) ?_); (exact (ea_cons (P := aInt) (Lb := (fun z : Unit => [])) ex_int ea_nil))))); (refine (bl_ret (g := fun a => a) ?_ (io1 (A := fun (w : Store) => aStore (w)) 0 (fun _ => rfl)).eh (io1 (A := fun (w : Store) => aStore (w)) 0 (fun _ => rfl)) (fun _ _ => rfl)); (refine (ex_op op_add o_int ?_ ?_); (exact (ex_var (P := aInt) (f := fun _ => p_low) 1 (fun _ => rfl))); (refine (ex_op op_mul o_intC ?_ ?_); (refine (ex_op op_sub o_int ?_ ?_); (exact (ex_var (P := aInt) (f := fun _ => p_high) 2 (fun _ => rfl))); (exact (ex_var (P := aInt) (f := fun _ => p_low) 1 (fun _ => rfl)))); (refine (ex_call1 (La := (fun z : (Unit × (Int × Unit)) => [(fun _ : Unit => aV v0) z.1, aInt z.2.1])) (kx := (fun (y : (Unit × (Int × Unit))) (w : Store) => (w, (y.2.1, ())))) (fm := fun y : (Store × (Int × Unit)) => m__law_take y.2.1 y.1) (A := aStore) (get := (fun (s : Store) => s)) (put := (fun (s : Store) w => w)) 0 0 (ok__law_take T) (hr.mono (by decide)) tk T.g__law_take T.kp__law_take (b__law_take T) ?_ (fun _ => rfl) (fun _ _ => rfl) (fun _ => rfl) (fun _ _ => rfl)); (refine (ea_cons (P := (fun _ : Unit => aV v0)) (Lb := (fun z : (Int × Unit) => [aInt z.1])) (ex_ref (A := fun (s : Store) => aStore s) 0 (fun _ => rfl)) ?_); (exact (ea_cons (P := aInt) (Lb := (fun z : Unit => [])) ex_int ea_nil))))))); (refine (bl_ret (g := fun a => a) ?_ (io1 (A := fun (w : Store) => aStore (w)) 0 (fun _ => rfl)).eh (io1 (A := fun (w : Store) => aStore (w)) 0 (fun _ => rfl)) (fun _ _ => rfl)); (refine (ex_op op_add o_int ?_ ?_); (exact (ex_var (P := aInt) (f := fun _ => p_low) 1 (fun _ => rfl))); (refine (ex_call1 (La := (fun z : (Unit × (Int × Unit)) => [(fun _ : Unit => aV v0) z.1, aInt z.2.1])) (kx := (fun (y : (Unit × (Int × Unit))) (w : Store) => (w, (y.2.1, ())))) (fm := fun y : (Store × (Int × Unit)) => m__law_take y.2.1 y.1) (A := aStore) (get := (fun (s : Store) => s)) (put := (fun (s : Store) w => w)) 0 0 (ok__law_take T) (hr.mono (by decide)) tk T.g__law_take T.kp__law_take (b__law_take T) ?_ (fun _ => rfl) (fun _ _ => rfl) (fun _ => rfl) (fun _ _ => rfl)); (refine (ea_cons (P := (fun _ : Unit => aV v0)) (Lb := (fun z : (Int × Unit) => [aInt z.1])) (ex_ref (A := fun (s : Store) => aStore s) 0 (fun _ => rfl)) ?_); (refine (ea_cons (P := aInt) (Lb := (fun z : Unit => [])) ?_ ea_nil); (refine (ex_op op_add o_int ?_ ex_int); (refine (ex_op op_sub o_int ?_ ?_); (exact (ex_var (P := aInt) (f := fun _ => p_high) 2 (fun _ => rfl))); (exact (ex_var (P := aInt) (f := fun _ => p_low) 1 (fun _ => rfl))))))))))))
theorem ok__law_edge (T : Txt K mg) : FnOk Pg w K mg base (L2.CX Pg w) 3 (He.ga K "_law_edge") (T.F__law_edge).choose ["store", "low", "high"] (spC mg K (fun y : (Store × (Int × (Int × Unit))) => [aStore y.1, aInt y.2.1, aInt y.2.2.1]) [0] aInt (fun w => [aStore w]) fun y => m__law_edge y.2.1 y.2.2.1 y.1) :=
  fn1 0 (pin := fun y : (Store × (Int × (Int × Unit))) => [aStore y.1, aInt y.2.1, aInt y.2.2.1]) (A := aStore) (get := fun y => y.1) (m := fun y => m__law_edge y.2.1 y.2.2.1) (Γ := fun v0 y (s : Store) => [aAt v0 (aStore s), aInt y.2.1, aInt y.2.2.1]) (T.F__law_edge).choose_spec Sc__law_edge (fun _ => rfl) (fun _ => rfl) (fun _ _ => rfl) fun cdv A outer s H E hr tk hp v0 y => bo__law_edge T hr tk hp v0 y.2.1 y.2.2.1
theorem b__law_edge (T : Txt K mg) : Binds K (T.F__law_edge).choose ["store", "low", "high"] [] := FunD.bindsN (T.F__law_edge).choose_spec fun _ _ _ _ _ _ us hl => match us, hl with | [_, _, _], _ => rfl
theorem Txt.kp__law_edge (T : Txt K mg) : PySem.W.keepIn K (.ref (He.ga K "_law_edge")) = true := (T.F__law_edge).choose_spec.kp
def m__law_text (p_many : Int) : M Store Tx := (bdo (fun s => s) (ret (tx " !\"#$&'()*+,-./0123456789:;<=>?@ABCDEFGHIJKLMNOPQRSTUVWXYZ[\\]^_`abcdefghijklmnopqrstuvwxyz{|}~")) (fun _ s => s) fun a27 => (bdo (fun s => s) ((((ret ()) >>= fun x => ((ret (2 : Int)) >>= fun x => (ret ()) >>= fun y => ret (x, y)) >>= fun y => ret (x, y)) >>= fun y => cio (fun s => s) (fun s w => w) fun w => m__law_take y.2.1 w) >>= fun x => (ret (0 : Int)) >>= fun y => lf (some (decide (x = y)))) (fun _ s => s) fun k => bdo (fun s => s) (if k = true then (bdo (fun s => s) (ret (tx "ab0z9 .:;=<>|/()~-,")) (fun _ s => s) fun a29 => (fun s => .ok (a29, ()) (s))) else (fun s => .ok (a27, ()) (s))) (fun _ s => s) fun (g28 : (Tx × Unit)) => (bdo (fun s => s) ((ret (tx "")) >>= fun x => (((((rd fun _ => p_many) >>= fun x => (ret ()) >>= fun y => ret (x, y)) >>= fun z => lf (rng1 z.1)) >>= fun xs => mpM (fun x30 => ((rd fun _ => g28.1) >>= fun x => (((ret ()) >>= fun x => ((((rd fun _ => g28.1) >>= fun x => (ret ()) >>= fun y => ret (x, y)) >>= fun y => lf (lenT y.1)) >>= fun x => (ret ()) >>= fun y => ret (x, y)) >>= fun y => ret (x, y)) >>= fun y => cio (fun s => s) (fun s w => w) fun w => m__law_take y.2.1 w) >>= fun y => lf (ixT x y))) xs) >>= fun x => ret () >>= fun y => ret (x, y)) >>= fun y => lf (joinT x y.1)) (fun _ s => s) fun a s => .ok a (s))))
abbrev N__law_text : List Str := ["store", "many", "signs", "k"]
theorem Sc__law_text : FnScope N__law_text ["store", "many"] (defScope s20) := ⟨rfl, rfl, rfl, by decide +kernel, rfl, by decide +kernel, by decide +kernel⟩
theorem bo__law_text (T : Txt K mg) {cdv : Value} {A : Around} {outer : List Env} {s0 : Shared} {H0 : Hp} {E : XK} (hr : Room 2 (Cb Pg w K mg base N__law_text "_law_text" (defScope s20) (He.ga K "_law_text") cdv A outer s0 H0 E).A) (tk : Takes (Cb Pg w K mg base N__law_text "_law_text" (defScope s20) (He.ga K "_law_text") cdv A outer s0 H0 E) (WF E)) (hp : PassesOwn (model Pg w) (Cb Pg w K mg base N__law_text "_law_text" (defScope s20) (He.ga K "_law_text") cdv A outer s0 H0 E).A (Cb Pg w K mg base N__law_text "_law_text" (defScope s20) (He.ga K "_law_text") cdv A outer s0 H0 E).env (Cb Pg w K mg base N__law_text "_law_text" (defScope s20) (He.ga K "_law_text") cdv A outer s0 H0 E).xe) (v0 : V) (p_many : Int) :
    Bl (Cb Pg w K mg base N__law_text "_law_text" (defScope s20) (He.ga K "_law_text") cdv A outer s0 H0 E) (WF E) (fun (s : Store) => [aAt v0 (aStore s), aInt p_many, aNo, aNo]) (defBody s20) (m__law_text p_many) (fun b u => .rt (aStr b) [aStore u] [v0]) (ehF mg K (fun w => [aStore w]) [v0]) :=
  (by refine (bl_set (Γ2 := fun (a27 : Tx) (s : Store) => [aAt v0 (aStore s), aInt p_many, aStr a27, aNo]) 2 ex_str (io1 (A := fun (w : Store) => aStore (w)) 0 (fun _ => rfl)).eh ?_ (fun _ _ => rfl) (Sc__law_text).nd); (exact (fun a27 => (by refine (bl_ifJ (L := fun (g28 : (Tx × Unit)) (s : Store) => [aAt v0 (aStore s), aInt p_many, aStr g28.1, aNo]) ?_ (io1 (A := fun (w : Store) => aStore (w)) 0 (fun _ => rfl)).eh ?_ (bl_nil (g := fun (s : Store) => (a27, ())) (fun _ => rfl) (fun _ => rfl) (fun _ => (.same (.same (.same (.same .nil)))))) ?_); (refine (et_cmp op_eq o_eqI ?_ ex_int); (refine (ex_call1 (La := (fun z : (Unit × (Int × Unit)) => [(fun _ : Unit => aV v0) z.1, aInt z.2.1])) (kx := (fun (y : (Unit × (Int × Unit))) (w : Store) => (w, (y.2.1, ())))) (fm := fun y : (Store × (Int × Unit)) => m__law_take y.2.1 y.1) (A := aStore) (get := (fun (s : Store) => s)) (put := (fun (s : Store) w => w)) 0 0 (ok__law_take T) (hr.mono (by decide)) tk T.g__law_take T.kp__law_take (b__law_take T) ?_ (fun _ => rfl) (fun _ _ => rfl) (fun _ => rfl) (fun _ _ => rfl)); (refine (ea_cons (P := (fun _ : Unit => aV v0)) (Lb := (fun z : (Int × Unit) => [aInt z.1])) (ex_ref (A := fun (s : Store) => aStore s) 0 (fun _ => rfl)) ?_); (exact (ea_cons (P := aInt) (Lb := (fun z : Unit => [])) ex_int ea_nil))))); (exact (bl_set (Γ2 := fun (a29 : Tx) (s : Store) => [aAt v0 (aStore s), aInt p_many, aStr a29, aNo]) 2 ex_str (io1 (A := fun (w : Store) => aStore (w)) 0 (fun _ => rfl)).eh (fun a29 => (bl_nil (g := fun (s : Store) => (a29, ())) (fun _ => rfl) (fun _ => rfl) (fun _ => (.same (.same (.same (.same .nil))))))) (fun _ _ => rfl) (Sc__law_text).nd)); (exact (fun g28 => (by refine (bl_ret (g := fun a => a) ?_ (io1 (A := fun (w : Store) => aStore (w)) 0 (fun _ => rfl)).eh (io1 (A := fun (w : Store) => aStore (w)) 0 (fun _ => rfl)) (fun _ _ => rfl)); (refine (ex_bm PySem.F.plainAttrs_str PySem.F.slot_str_join PySem.F.type_str_join mt_join (m_join (Pa := (aL aStr)) (fun _ => inferInstance)) (fun _ => ty_str) ex_str ?_); (refine (ea_cons (P := (aL aStr)) (Lb := (fun _ : Unit => [])) ?_ ea_nil); (refine (ex_lc ?_); (refine (lcj [("k", 3)] (fun (x30 : Int) (s : Store) => [aAt v0 (aStore s), aInt p_many, aStr g28.1, aInt x30]) ?_ (fun _ _ _ _ _ => (tg_name (P := aInt) 3 (Sc__law_text).nd)) (fun _ _ => rfl) ?_ (fun _ => inferInstance) (by decide) (un_cons (fun _ => rfl) un_nil) rfl (Sc__law_text).nd (blkOk_by rfl)); (refine (es_rng1 ?_ T.n_range); (refine (ea_cons (P := aInt) (Lb := (fun z : Unit => [])) ?_ ea_nil); (exact (ex_var (P := aInt) (f := fun _ => p_many) 1 (fun _ => rfl))))); (exact (fun _ _ _ _ _ x30 => (by refine (ex_ix ix_str o_ixT ?_ ?_); (exact (ex_var (P := aStr) (f := fun _ => g28.1) 2 (fun _ => rfl))); (refine (ex_call1 (La := (fun z : (Unit × (Int × Unit)) => [(fun _ : Unit => aV v0) z.1, aInt z.2.1])) (kx := (fun (y : (Unit × (Int × Unit))) (w : Store) => (w, (y.2.1, ())))) (fm := fun y : (Store × (Int × Unit)) => m__law_take y.2.1 y.1) (A := aStore) (get := (fun (s : Store) => s)) (put := (fun (s : Store) w => w)) 0 0 (ok__law_take T) (hr.mono (by decide)) tk0 T.g__law_take T.kp__law_take (b__law_take T) ?_ (fun _ => rfl) (fun _ _ => rfl) (fun _ => rfl) (fun _ _ => rfl)); (refine (ea_cons (P := (fun _ : Unit => aV v0)) (Lb := (fun z : (Int × Unit) => [aInt z.1])) (ex_ref (A := fun (s : Store) => aStore s) 0 (fun _ => rfl)) ?_); (refine (ea_cons (P := aInt) (Lb := (fun z : Unit => [])) ?_ ea_nil); (refine (ex_callB call_len_str b_lenT T.n_len ?_); (refine (ea_cons (P := aStr) (Lb := (fun z : Unit => [])) ?_ ea_nil); (exact (ex_var (P := aStr) (f := fun _ => g28.1) 2 (fun _ => rfl))))))))))))))))))))))
theorem ok__law_text (T : Txt K mg) : FnOk Pg w K mg base (L2.CX Pg w) 3 (He.ga K "_law_text") (T.F__law_text).choose ["store", "many"] (spC mg K (fun y : (Store × (Int × Unit)) => [aStore y.1, aInt y.2.1]) [0] aStr (fun w => [aStore w]) fun y => m__law_text y.2.1 y.1) :=
  fn1 0 (pin := fun y : (Store × (Int × Unit)) => [aStore y.1, aInt y.2.1]) (A := aStore) (get := fun y => y.1) (m := fun y => m__law_text y.2.1) (Γ := fun v0 y (s : Store) => [aAt v0 (aStore s), aInt y.2.1, aNo, aNo]) (T.F__law_text).choose_spec Sc__law_text (fun _ => rfl) (fun _ => rfl) (fun _ _ => rfl) fun cdv A outer s H E hr tk hp v0 y => bo__law_text T hr tk hp v0 y.2.1
theorem b__law_text (T : Txt K mg) : Binds K (T.F__law_text).choose ["store", "many"] [] := FunD.bindsN (T.F__law_text).choose_spec fun _ _ _ _ _ _ us hl => match us, hl with | [_, _], _ => rfl
theorem Txt.kp__law_text (T : Txt K mg) : PySem.W.keepIn K (.ref (He.ga K "_law_text")) = true := (T.F__law_text).choose_spec.kp
def m__law_run (p_many : Int) : M Store Tx := (bdo (fun s => s) (ret (tx "abcdefghijklmnopqrstuvwxyz0123456789")) (fun _ s => s) fun a31 => (bdo (fun s => s) (((ret ()) >>= fun x => ((ret (26 : Int)) >>= fun x => (ret ()) >>= fun y => ret (x, y)) >>= fun y => ret (x, y)) >>= fun y => cio (fun s => s) (fun s w => w) fun w => m__law_take y.2.1 w) (fun _ s => s) fun a32 => (bdo (fun s => s) ((((ret ()) >>= fun x => ((ret (3 : Int)) >>= fun x => (ret ()) >>= fun y => ret (x, y)) >>= fun y => ret (x, y)) >>= fun y => cio (fun s => s) (fun s w => w) fun w => m__law_take y.2.1 w) >>= fun x => (ret (0 : Int)) >>= fun y => lf (some (decide (x = y)))) (fun _ s => s) fun k => if k = true then (bdo (fun s => s) (((rd fun _ => a31) >>= fun x => (rd fun _ => a32) >>= fun y => lf (ixT x y)) >>= fun x => (rd fun _ => p_many) >>= fun y => lf (repT x y)) (fun _ s => s) fun a s => .ok a (s)) else (bdo (fun s => s) (ret (tx "")) (fun _ s => s) fun a33 => (bdo (fun s => s) (((rd fun _ => p_many) >>= fun x => (ret ()) >>= fun y => ret (x, y)) >>= fun z => lf (rng1 z.1)) (fun _ s => s) fun xs => bdo (fun s => s) (forN (fun (g35 : (Tx × Unit)) (x34 : Int) => (bdo (fun s => s) ((rd fun _ => x34) >>= fun x => (ret (0 : Int)) >>= fun y => lf (some (decide (x = y)))) (fun _ s => s) fun k => bdo (fun s => s) (if k = true then (bdo (fun s => s) ((rd fun _ => g35.1) >>= fun x => ((rd fun _ => a31) >>= fun x => (rd fun _ => a32) >>= fun y => lf (ixT x y)) >>= fun y => lf (catT x y)) (fun _ s => s) fun a37 => (fun s => .ok (a37, ()) (s))) else (bdo (fun s => s) ((rd fun _ => g35.1) >>= fun x => ((rd fun _ => a31) >>= fun x => (((ret ()) >>= fun x => ((ret (36 : Int)) >>= fun x => (ret ()) >>= fun y => ret (x, y)) >>= fun y => ret (x, y)) >>= fun y => cio (fun s => s) (fun s w => w) fun w => m__law_take y.2.1 w) >>= fun y => lf (ixT x y)) >>= fun y => lf (catT x y)) (fun _ s => s) fun a38 => (fun s => .ok (a38, ()) (s)))) (fun _ s => s) fun (g36 : (Tx × Unit)) => (fun s => .ok (g36.1, ()) (s)))) xs (a33, ())) (fun _ s => s) fun (g35 : (Tx × Unit)) => (bdo (fun s => s) (rd fun _ => g35.1) (fun _ s => s) fun a s => .ok a (s)))))))
abbrev N__law_run : List Str := ["store", "many", "signs", "first", "told", "k"]
theorem Sc__law_run : FnScope N__law_run ["store", "many"] (defScope s21) := ⟨rfl, rfl, rfl, by decide +kernel, rfl, by decide +kernel, by decide +kernel⟩
theorem bo__law_run (T : Txt K mg) {cdv : Value} {A : Around} {outer : List Env} {s0 : Shared} {H0 : Hp} {E : XK} (hr : Room 2 (Cb Pg w K mg base N__law_run "_law_run" (defScope s21) (He.ga K "_law_run") cdv A outer s0 H0 E).A) (tk : Takes (Cb Pg w K mg base N__law_run "_law_run" (defScope s21) (He.ga K "_law_run") cdv A outer s0 H0 E) (WF E)) (hp : PassesOwn (model Pg w) (Cb Pg w K mg base N__law_run "_law_run" (defScope s21) (He.ga K "_law_run") cdv A outer s0 H0 E).A (Cb Pg w K mg base N__law_run "_law_run" (defScope s21) (He.ga K "_law_run") cdv A outer s0 H0 E).env (Cb Pg w K mg base N__law_run "_law_run" (defScope s21) (He.ga K "_law_run") cdv A outer s0 H0 E).xe) (v0 : V) (p_many : Int) :
    Bl (Cb Pg w K mg base N__law_run "_law_run" (defScope s21) (He.ga K "_law_run") cdv A outer s0 H0 E) (WF E) (fun (s : Store) => [aAt v0 (aStore s), aInt p_many, aNo, aNo, aNo, aNo]) (defBody s21) (m__law_run p_many) (fun b u => .rt (aStr b) [aStore u] [v0]) (ehF mg K (fun w => [aStore w]) [v0]) :=
  (by refine (bl_set (Γ2 := fun (a31 : Tx) (s : Store) => [aAt v0 (aStore s), aInt p_many, aStr a31, aNo, aNo, aNo]) 2 ex_str (io1 (A := fun (w : Store) => aStore (w)) 0 (fun _ => rfl)).eh ?_ (fun _ _ => rfl) (Sc__law_run).nd); (exact (fun a31 => (by refine (bl_set (Γ2 := fun (a32 : Int) (s : Store) => [aAt v0 (aStore s), aInt p_many, aStr a31, aInt a32, aNo, aNo]) 3 ?_ (io1 (A := fun (w : Store) => aStore (w)) 0 (fun _ => rfl)).eh ?_ (fun _ _ => rfl) (Sc__law_run).nd); (refine (ex_call1 (La := (fun z : (Unit × (Int × Unit)) => [(fun _ : Unit => aV v0) z.1, aInt z.2.1])) (kx := (fun (y : (Unit × (Int × Unit))) (w : Store) => (w, (y.2.1, ())))) (fm := fun y : (Store × (Int × Unit)) => m__law_take y.2.1 y.1) (A := aStore) (get := (fun (s : Store) => s)) (put := (fun (s : Store) w => w)) 0 0 (ok__law_take T) (hr.mono (by decide)) tk T.g__law_take T.kp__law_take (b__law_take T) ?_ (fun _ => rfl) (fun _ _ => rfl) (fun _ => rfl) (fun _ _ => rfl)); (refine (ea_cons (P := (fun _ : Unit => aV v0)) (Lb := (fun z : (Int × Unit) => [aInt z.1])) (ex_ref (A := fun (s : Store) => aStore s) 0 (fun _ => rfl)) ?_); (exact (ea_cons (P := aInt) (Lb := (fun z : Unit => [])) ex_int ea_nil)))); (exact (fun a32 => (by refine (bl_ifT ?_ (io1 (A := fun (w : Store) => aStore (w)) 0 (fun _ => rfl)).eh ?_ ?_ nonx); (refine (et_cmp op_eq o_eqI ?_ ex_int); (refine (ex_call1 (La := (fun z : (Unit × (Int × Unit)) => [(fun _ : Unit => aV v0) z.1, aInt z.2.1])) (kx := (fun (y : (Unit × (Int × Unit))) (w : Store) => (w, (y.2.1, ())))) (fm := fun y : (Store × (Int × Unit)) => m__law_take y.2.1 y.1) (A := aStore) (get := (fun (s : Store) => s)) (put := (fun (s : Store) w => w)) 0 0 (ok__law_take T) (hr.mono (by decide)) tk T.g__law_take T.kp__law_take (b__law_take T) ?_ (fun _ => rfl) (fun _ _ => rfl) (fun _ => rfl) (fun _ _ => rfl)); (refine (ea_cons (P := (fun _ : Unit => aV v0)) (Lb := (fun z : (Int × Unit) => [aInt z.1])) (ex_ref (A := fun (s : Store) => aStore s) 0 (fun _ => rfl)) ?_); (exact (ea_cons (P := aInt) (Lb := (fun z : Unit => [])) ex_int ea_nil))))); (refine (bl_ret (g := fun a => a) ?_ (io1 (A := fun (w : Store) => aStore (w)) 0 (fun _ => rfl)).eh (io1 (A := fun (w : Store) => aStore (w)) 0 (fun _ => rfl)) (fun _ _ => rfl)); (refine (ex_op G.op_repT o_repT ?_ ?_); (refine (ex_ix ix_str o_ixT ?_ ?_); (exact (ex_var (P := aStr) (f := fun _ => a31) 2 (fun _ => rfl))); (exact (ex_var (P := aInt) (f := fun _ => a32) 3 (fun _ => rfl)))); (exact (ex_var (P := aInt) (f := fun _ => p_many) 1 (fun _ => rfl))))); (refine (bl_set (Γ2 := fun (a33 : Tx) (s : Store) => [aAt v0 (aStore s), aInt p_many, aStr a31, aInt a32, aStr a33, aNo]) 4 ex_str (io1 (A := fun (w : Store) => aStore (w)) 0 (fun _ => rfl)).eh ?_ (fun _ _ => rfl) (Sc__law_run).nd); (exact (fun a33 => (by refine (bl_for (g0 := (a33, ())) (L := fun (g35 : (Tx × Unit)) (s : Store) => [aAt v0 (aStore s), aNo, aStr a31, aInt a32, aStr g35.1, aNo]) (Γb := fun (g35 : (Tx × Unit)) (x34 : Int) (s : Store) => [aAt v0 (aStore s), aNo, aStr a31, aInt a32, aStr g35.1, aInt x34]) ?_ (io1 (A := fun (w : Store) => aStore (w)) 0 (fun _ => rfl)).eh (tg_name (P := aInt) 5 (Sc__law_run).nd) (fun _ => (.same (.no (.same (.same (.same (.same .nil))))))) (fun _ _ _ => rfl) ehq ?_ ?_ hp rfl); (refine (es_rng1 ?_ T.n_range); (refine (ea_cons (P := aInt) (Lb := (fun z : Unit => [])) ?_ ea_nil); (exact (ex_var (P := aInt) (f := fun _ => p_many) 1 (fun _ => rfl))))); (exact (fun g35 x34 => (by refine (bl_ifJ (L := fun (g36 : (Tx × Unit)) (s : Store) => [aAt v0 (aStore s), aNo, aStr a31, aInt a32, aStr g36.1, aNo]) ?_ (io1 (A := fun (w : Store) => aStore (w)) 0 (fun _ => rfl)).eh ?_ ?_ (fun g36 => (bl_nil (g := fun (s : Store) => (g36.1, ())) (fun _ => rfl) (fun _ => rfl) (fun _ => (.same (.same (.same (.same (.same (.same .nil)))))))))); (refine (et_cmp op_eq o_eqI ?_ ex_int); (exact (ex_var (P := aInt) (f := fun _ => x34) 5 (fun _ => rfl)))); (refine (bl_set (Γ2 := fun (a37 : Tx) (s : Store) => [aAt v0 (aStore s), aNo, aStr a31, aInt a32, aStr a37, aInt x34]) 4 ?_ (io1 (A := fun (w : Store) => aStore (w)) 0 (fun _ => rfl)).eh (fun a37 => (bl_nil (g := fun (s : Store) => (a37, ())) (fun _ => rfl) (fun _ => rfl) (fun _ => (.same (.same (.same (.same (.same (.no .nil))))))))) (fun _ _ => rfl) (Sc__law_run).nd); (refine (ex_op op_add_str o_catT ?_ ?_); (exact (ex_var (P := aStr) (f := fun _ => g35.1) 4 (fun _ => rfl))); (refine (ex_ix ix_str o_ixT ?_ ?_); (exact (ex_var (P := aStr) (f := fun _ => a31) 2 (fun _ => rfl))); (exact (ex_var (P := aInt) (f := fun _ => a32) 3 (fun _ => rfl)))))); (refine (bl_set (Γ2 := fun (a38 : Tx) (s : Store) => [aAt v0 (aStore s), aNo, aStr a31, aInt a32, aStr a38, aInt x34]) 4 ?_ (io1 (A := fun (w : Store) => aStore (w)) 0 (fun _ => rfl)).eh (fun a38 => (bl_nil (g := fun (s : Store) => (a38, ())) (fun _ => rfl) (fun _ => rfl) (fun _ => (.same (.same (.same (.same (.same (.no .nil))))))))) (fun _ _ => rfl) (Sc__law_run).nd); (refine (ex_op op_add_str o_catT ?_ ?_); (exact (ex_var (P := aStr) (f := fun _ => g35.1) 4 (fun _ => rfl))); (refine (ex_ix ix_str o_ixT ?_ ?_); (exact (ex_var (P := aStr) (f := fun _ => a31) 2 (fun _ => rfl))); (refine (ex_call1 (La := (fun z : (Unit × (Int × Unit)) => [(fun _ : Unit => aV v0) z.1, aInt z.2.1])) (kx := (fun (y : (Unit × (Int × Unit))) (w : Store) => (w, (y.2.1, ())))) (fm := fun y : (Store × (Int × Unit)) => m__law_take y.2.1 y.1) (A := aStore) (get := (fun (s : Store) => s)) (put := (fun (s : Store) w => w)) 0 0 (ok__law_take T) (hr.mono (by decide)) tk T.g__law_take T.kp__law_take (b__law_take T) ?_ (fun _ => rfl) (fun _ _ => rfl) (fun _ => rfl) (fun _ _ => rfl)); (refine (ea_cons (P := (fun _ : Unit => aV v0)) (Lb := (fun z : (Int × Unit) => [aInt z.1])) (ex_ref (A := fun (s : Store) => aStore s) 0 (fun _ => rfl)) ?_); (exact (ea_cons (P := aInt) (Lb := (fun z : Unit => [])) ex_int ea_nil)))))))))); (exact (fun g35 => (by refine (bl_ret (g := fun a => a) ?_ (io1 (A := fun (w : Store) => aStore (w)) 0 (fun _ => rfl)).eh (io1 (A := fun (w : Store) => aStore (w)) 0 (fun _ => rfl)) (fun _ _ => rfl)); (exact (ex_var (P := aStr) (f := fun _ => g35.1) 4 (fun _ => rfl)))))))))))))))))
theorem ok__law_run (T : Txt K mg) : FnOk Pg w K mg base (L2.CX Pg w) 3 (He.ga K "_law_run") (T.F__law_run).choose ["store", "many"] (spC mg K (fun y : (Store × (Int × Unit)) => [aStore y.1, aInt y.2.1]) [0] aStr (fun w => [aStore w]) fun y => m__law_run y.2.1 y.1) :=
  fn1 0 (pin := fun y : (Store × (Int × Unit)) => [aStore y.1, aInt y.2.1]) (A := aStore) (get := fun y => y.1) (m := fun y => m__law_run y.2.1) (Γ := fun v0 y (s : Store) => [aAt v0 (aStore s), aInt y.2.1, aNo, aNo, aNo, aNo]) (T.F__law_run).choose_spec Sc__law_run (fun _ => rfl) (fun _ => rfl) (fun _ _ => rfl) fun cdv A outer s H E hr tk hp v0 y => bo__law_run T hr tk hp v0 y.2.1
theorem b__law_run (T : Txt K mg) : Binds K (T.F__law_run).choose ["store", "many"] [] := FunD.bindsN (T.F__law_run).choose_spec fun _ _ _ _ _ _ us hl => match us, hl with | [_, _], _ => rfl
theorem Txt.kp__law_run (T : Txt K mg) : PySem.W.keepIn K (.ref (He.ga K "_law_run")) = true := (T.F__law_run).choose_spec.kp
def m__law_bad_name  : M Store Tx := (bdo (fun s => s) (((ret ()) >>= fun x => ((((ret ()) >>= fun x => ((ret (1 : Int)) >>= fun x => ((ret (11 : Int)) >>= fun x => (ret ()) >>= fun y => ret (x, y)) >>= fun y => ret (x, y)) >>= fun y => ret (x, y)) >>= fun y => cio (fun s => s) (fun s w => w) fun w => m__law_edge y.2.1 y.2.2.1 w) >>= fun x => (ret ()) >>= fun y => ret (x, y)) >>= fun y => ret (x, y)) >>= fun y => cio (fun s => s) (fun s w => w) fun w => m__law_run y.2.1 w) (fun _ s => s) fun a39 => (bdo (fun s => s) (((ret ()) >>= fun x => (((((rd fun _ => a39) >>= fun x => (ret ()) >>= fun y => ret (x, y)) >>= fun y => lf (lenT y.1)) >>= fun x => (ret (1 : Int)) >>= fun y => lf (some (x + y))) >>= fun x => (ret ()) >>= fun y => ret (x, y)) >>= fun y => ret (x, y)) >>= fun y => cio (fun s => s) (fun s w => w) fun w => m__law_take y.2.1 w) (fun _ s => s) fun a40 => (bdo (fun s => s) (((ret ()) >>= fun x => ((ret (4 : Int)) >>= fun x => (ret ()) >>= fun y => ret (x, y)) >>= fun y => ret (x, y)) >>= fun y => cio (fun s => s) (fun s w => w) fun w => m__law_take y.2.1 w) (fun _ s => s) fun a41 => (bdo (fun s => s) ((rd fun _ => a41) >>= fun x => (ret (0 : Int)) >>= fun y => lf (some (decide (x = y)))) (fun _ s => s) fun k => if k = true then (bdo (fun s => s) (ret (tx "")) (fun _ s => s) fun a s => .ok a (s)) else (bdo (fun s => s) ((rd fun _ => a41) >>= fun x => (ret (1 : Int)) >>= fun y => lf (some (decide (x = y)))) (fun _ s => s) fun k => if k = true then (bdo (fun s => s) (((ret ()) >>= fun x => (((ret (13 : Int)) >>= fun x => (((ret ()) >>= fun x => ((ret (3 : Int)) >>= fun x => (ret ()) >>= fun y => ret (x, y)) >>= fun y => ret (x, y)) >>= fun y => cio (fun s => s) (fun s w => w) fun w => m__law_take y.2.1 w) >>= fun y => lf (some (x + y))) >>= fun x => (ret ()) >>= fun y => ret (x, y)) >>= fun y => ret (x, y)) >>= fun y => cio (fun s => s) (fun s w => w) fun w => m__law_run y.2.1 w) (fun _ s => s) fun a s => .ok a (s)) else (bdo (fun s => s) ((rd fun _ => a41) >>= fun x => (ret (2 : Int)) >>= fun y => lf (some (decide (x = y)))) (fun _ s => s) fun k => if k = true then (bdo (fun s => s) ((((((ret ()) >>= fun x => ((ret (10 : Int)) >>= fun x => (ret ()) >>= fun y => ret (x, y)) >>= fun y => ret (x, y)) >>= fun y => cio (fun s => s) (fun s w => w) fun w => m__law_take y.2.1 w) >>= fun x => (ret ()) >>= fun y => ret (x, y)) >>= fun y => lf (strI y.1)) >>= fun x => (rd fun _ => a39) >>= fun y => lf (catT x y)) (fun _ s => s) fun a s => .ok a (s)) else (bdo (fun s => s) ((((rd fun _ => a39) >>= fun x => (ret none) >>= fun i => ((rd fun _ => a40) >>= fun i => ret (some i)) >>= fun j => lf (cutT x i j)) >>= fun x => ((ret (tx "AZ _-.~/;")) >>= fun x => (((ret ()) >>= fun x => ((ret (9 : Int)) >>= fun x => (ret ()) >>= fun y => ret (x, y)) >>= fun y => ret (x, y)) >>= fun y => cio (fun s => s) (fun s w => w) fun w => m__law_take y.2.1 w) >>= fun y => lf (ixT x y)) >>= fun y => lf (catT x y)) >>= fun x => ((rd fun _ => a39) >>= fun x => ((rd fun _ => a40) >>= fun i => ret (some i)) >>= fun i => (ret none) >>= fun j => lf (cutT x i j)) >>= fun y => lf (catT x y)) (fun _ s => s) fun a s => .ok a (s))))))))
abbrev N__law_bad_name : List Str := ["store", "body", "spot", "way"]
theorem Sc__law_bad_name : FnScope N__law_bad_name ["store"] (defScope s22) := ⟨rfl, rfl, rfl, by decide +kernel, rfl, by decide +kernel, by decide +kernel⟩
theorem bo__law_bad_name (T : Txt K mg) {cdv : Value} {A : Around} {outer : List Env} {s0 : Shared} {H0 : Hp} {E : XK} (hr : Room 3 (Cb Pg w K mg base N__law_bad_name "_law_bad_name" (defScope s22) (He.ga K "_law_bad_name") cdv A outer s0 H0 E).A) (tk : Takes (Cb Pg w K mg base N__law_bad_name "_law_bad_name" (defScope s22) (He.ga K "_law_bad_name") cdv A outer s0 H0 E) (WF E)) (hp : PassesOwn (model Pg w) (Cb Pg w K mg base N__law_bad_name "_law_bad_name" (defScope s22) (He.ga K "_law_bad_name") cdv A outer s0 H0 E).A (Cb Pg w K mg base N__law_bad_name "_law_bad_name" (defScope s22) (He.ga K "_law_bad_name") cdv A outer s0 H0 E).env (Cb Pg w K mg base N__law_bad_name "_law_bad_name" (defScope s22) (He.ga K "_law_bad_name") cdv A outer s0 H0 E).xe) (v0 : V)  :
    Bl (Cb Pg w K mg base N__law_bad_name "_law_bad_name" (defScope s22) (He.ga K "_law_bad_name") cdv A outer s0 H0 E) (WF E) (fun (s : Store) => [aAt v0 (aStore s), aNo, aNo, aNo]) (defBody s22) (m__law_bad_name ) (fun b u => .rt (aStr b) [aStore u] [v0]) (ehF mg K (fun w => [aStore w]) [v0]) :=
  (by refine (bl_set (Γ2 := fun (a39 : Tx) (s : Store) => [aAt v0 (aStore s), aStr a39, aNo, aNo]) 1 ?_ (io1 (A := fun (w : Store) => aStore (w)) 0 (fun _ => rfl)).eh ?_ (fun _ _ => rfl) (Sc__law_bad_name).nd); (refine (ex_call1 (La := (fun z : (Unit × (Int × Unit)) => [(fun _ : Unit => aV v0) z.1, aInt z.2.1])) (kx := (fun (y : (Unit × (Int × Unit))) (w : Store) => (w, (y.2.1, ())))) (fm := fun y : (Store × (Int × Unit)) => m__law_run y.2.1 y.1) (A := aStore) (get := (fun (s : Store) => s)) (put := (fun (s : Store) w => w)) 0 0 (ok__law_run T) (hr.mono (by decide)) tk T.g__law_run T.kp__law_run (b__law_run T) ?_ (fun _ => rfl) (fun _ _ => rfl) (fun _ => rfl) (fun _ _ => rfl)); (refine (ea_cons (P := (fun _ : Unit => aV v0)) (Lb := (fun z : (Int × Unit) => [aInt z.1])) (ex_ref (A := fun (s : Store) => aStore s) 0 (fun _ => rfl)) ?_); (refine (ea_cons (P := aInt) (Lb := (fun z : Unit => [])) ?_ ea_nil); (refine (ex_call1 (La := (fun z : (Unit × (Int × (Int × Unit))) => [(fun _ : Unit => aV v0) z.1, aInt z.2.1, aInt z.2.2.1])) (kx := (fun (y : (Unit × (Int × (Int × Unit)))) (w : Store) => (w, (y.2.1, (y.2.2.1, ()))))) (fm := fun y : (Store × (Int × (Int × Unit))) => m__law_edge y.2.1 y.2.2.1 y.1) (A := aStore) (get := (fun (s : Store) => s)) (put := (fun (s : Store) w => w)) 0 0 (ok__law_edge T) (hr.mono (by decide)) tk T.g__law_edge T.kp__law_edge (b__law_edge T) ?_ (fun _ => rfl) (fun _ _ => rfl) (fun _ => rfl) (fun _ _ => rfl)); (refine (ea_cons (P := (fun _ : Unit => aV v0)) (Lb := (fun z : (Int × (Int × Unit)) => [aInt z.1, aInt z.2.1])) (ex_ref (A := fun (s : Store) => aStore s) 0 (fun _ => rfl)) ?_); (refine (ea_cons (P := aInt) (Lb := (fun z : (Int × Unit) => [aInt z.1])) ex_int ?_); (exact (ea_cons (P := aInt) (Lb := (fun z : Unit => [])) ex_int ea_nil)))))))); (exact (fun a39 => (by refine (bl_set (Γ2 := fun (a40 : Int) (s : Store) => [aAt v0 (aStore s), aStr a39, aInt a40, aNo]) 2 ?_ (io1 (A := fun (w : Store) => aStore (w)) 0 (fun _ => rfl)).eh ?_ (fun _ _ => rfl) (Sc__law_bad_name).nd); (refine (ex_call1 (La := (fun z : (Unit × (Int × Unit)) => [(fun _ : Unit => aV v0) z.1, aInt z.2.1])) (kx := (fun (y : (Unit × (Int × Unit))) (w : Store) => (w, (y.2.1, ())))) (fm := fun y : (Store × (Int × Unit)) => m__law_take y.2.1 y.1) (A := aStore) (get := (fun (s : Store) => s)) (put := (fun (s : Store) w => w)) 0 0 (ok__law_take T) (hr.mono (by decide)) tk T.g__law_take T.kp__law_take (b__law_take T) ?_ (fun _ => rfl) (fun _ _ => rfl) (fun _ => rfl) (fun _ _ => rfl)); (refine (ea_cons (P := (fun _ : Unit => aV v0)) (Lb := (fun z : (Int × Unit) => [aInt z.1])) (ex_ref (A := fun (s : Store) => aStore s) 0 (fun _ => rfl)) ?_); (refine (ea_cons (P := aInt) (Lb := (fun z : Unit => [])) ?_ ea_nil); (refine (ex_op op_add o_int ?_ ex_int); (refine (ex_callB call_len_str b_lenT T.n_len ?_); (refine (ea_cons (P := aStr) (Lb := (fun z : Unit => [])) ?_ ea_nil); (exact (ex_var (P := aStr) (f := fun _ => a39) 1 (fun _ => rfl))))))))); (exact (fun a40 => (by refine (bl_set (Γ2 := fun (a41 : Int) (s : Store) => [aAt v0 (aStore s), aStr a39, aInt a40, aInt a41]) 3 ?_ (io1 (A := fun (w : Store) => aStore (w)) 0 (fun _ => rfl)).eh ?_ (fun _ _ => rfl) (Sc__law_bad_name).nd); (refine (ex_call1 (La := (fun z : (Unit × (Int × Unit)) => [(fun _ : Unit => aV v0) z.1, aInt z.2.1])) (kx := (fun (y : (Unit × (Int × Unit))) (w : Store) => (w, (y.2.1, ())))) (fm := fun y : (Store × (Int × Unit)) => m__law_take y.2.1 y.1) (A := aStore) (get := (fun (s : Store) => s)) (put := (fun (s : Store) w => w)) 0 0 (ok__law_take T) (hr.mono (by decide)) tk T.g__law_take T.kp__law_take (b__law_take T) ?_ (fun _ => rfl) (fun _ _ => rfl) (fun _ => rfl) (fun _ _ => rfl)); (refine (ea_cons (P := (fun _ : Unit => aV v0)) (Lb := (fun z : (Int × Unit) => [aInt z.1])) (ex_ref (A := fun (s : Store) => aStore s) 0 (fun _ => rfl)) ?_); (exact (ea_cons (P := aInt) (Lb := (fun z : Unit => [])) ex_int ea_nil)))); (exact (fun a41 => (by refine (bl_ifT ?_ (io1 (A := fun (w : Store) => aStore (w)) 0 (fun _ => rfl)).eh ?_ ?_ nonx); (refine (et_cmp op_eq o_eqI ?_ ex_int); (exact (ex_var (P := aInt) (f := fun _ => a41) 3 (fun _ => rfl)))); (exact (bl_ret (g := fun a => a) ex_str (io1 (A := fun (w : Store) => aStore (w)) 0 (fun _ => rfl)).eh (io1 (A := fun (w : Store) => aStore (w)) 0 (fun _ => rfl)) (fun _ _ => rfl))); (refine (bl_ifT ?_ (io1 (A := fun (w : Store) => aStore (w)) 0 (fun _ => rfl)).eh ?_ ?_ nonx); (refine (et_cmp op_eq o_eqI ?_ ex_int); (exact (ex_var (P := aInt) (f := fun _ => a41) 3 (fun _ => rfl)))); (refine (bl_ret (g := fun a => a) ?_ (io1 (A := fun (w : Store) => aStore (w)) 0 (fun _ => rfl)).eh (io1 (A := fun (w : Store) => aStore (w)) 0 (fun _ => rfl)) (fun _ _ => rfl)); (refine (ex_call1 (La := (fun z : (Unit × (Int × Unit)) => [(fun _ : Unit => aV v0) z.1, aInt z.2.1])) (kx := (fun (y : (Unit × (Int × Unit))) (w : Store) => (w, (y.2.1, ())))) (fm := fun y : (Store × (Int × Unit)) => m__law_run y.2.1 y.1) (A := aStore) (get := (fun (s : Store) => s)) (put := (fun (s : Store) w => w)) 0 0 (ok__law_run T) (hr.mono (by decide)) tk T.g__law_run T.kp__law_run (b__law_run T) ?_ (fun _ => rfl) (fun _ _ => rfl) (fun _ => rfl) (fun _ _ => rfl)); (refine (ea_cons (P := (fun _ : Unit => aV v0)) (Lb := (fun z : (Int × Unit) => [aInt z.1])) (ex_ref (A := fun (s : Store) => aStore s) 0 (fun _ => rfl)) ?_); (refine (ea_cons (P := aInt) (Lb := (fun z : Unit => [])) ?_ ea_nil); (refine (ex_op op_add o_int ex_int ?_); (refine (ex_call1 (La := (fun z : (Unit × (Int × Unit)) => [(fun _ : Unit => aV v0) z.1, aInt z.2.1])) (kx := (fun (y : (Unit × (Int × Unit))) (w : Store) => (w, (y.2.1, ())))) (fm := fun y : (Store × (Int × Unit)) => m__law_take y.2.1 y.1) (A := aStore) (get := (fun (s : Store) => s)) (put := (fun (s : Store) w => w)) 0 0 (ok__law_take T) (hr.mono (by decide)) tk T.g__law_take T.kp__law_take (b__law_take T) ?_ (fun _ => rfl) (fun _ _ => rfl) (fun _ => rfl) (fun _ _ => rfl)); (refine (ea_cons (P := (fun _ : Unit => aV v0)) (Lb := (fun z : (Int × Unit) => [aInt z.1])) (ex_ref (A := fun (s : Store) => aStore s) 0 (fun _ => rfl)) ?_); (exact (ea_cons (P := aInt) (Lb := (fun z : Unit => [])) ex_int ea_nil))))))))); (refine (bl_ifT ?_ (io1 (A := fun (w : Store) => aStore (w)) 0 (fun _ => rfl)).eh ?_ ?_ nonx); (refine (et_cmp op_eq o_eqI ?_ ex_int); (exact (ex_var (P := aInt) (f := fun _ => a41) 3 (fun _ => rfl)))); (refine (bl_ret (g := fun a => a) ?_ (io1 (A := fun (w : Store) => aStore (w)) 0 (fun _ => rfl)).eh (io1 (A := fun (w : Store) => aStore (w)) 0 (fun _ => rfl)) (fun _ _ => rfl)); (refine (ex_op op_add_str o_catT ?_ ?_); (refine (ex_callT call_str_int b_strI T.n_str ?_); (refine (ea_cons (P := aInt) (Lb := (fun z : Unit => [])) ?_ ea_nil); (refine (ex_call1 (La := (fun z : (Unit × (Int × Unit)) => [(fun _ : Unit => aV v0) z.1, aInt z.2.1])) (kx := (fun (y : (Unit × (Int × Unit))) (w : Store) => (w, (y.2.1, ())))) (fm := fun y : (Store × (Int × Unit)) => m__law_take y.2.1 y.1) (A := aStore) (get := (fun (s : Store) => s)) (put := (fun (s : Store) w => w)) 0 0 (ok__law_take T) (hr.mono (by decide)) tk T.g__law_take T.kp__law_take (b__law_take T) ?_ (fun _ => rfl) (fun _ _ => rfl) (fun _ => rfl) (fun _ _ => rfl)); (refine (ea_cons (P := (fun _ : Unit => aV v0)) (Lb := (fun z : (Int × Unit) => [aInt z.1])) (ex_ref (A := fun (s : Store) => aStore s) 0 (fun _ => rfl)) ?_); (exact (ea_cons (P := aInt) (Lb := (fun z : Unit => [])) ex_int ea_nil)))))); (exact (ex_var (P := aStr) (f := fun _ => a39) 1 (fun _ => rfl))))); (refine (bl_ret (g := fun a => a) ?_ (io1 (A := fun (w : Store) => aStore (w)) 0 (fun _ => rfl)).eh (io1 (A := fun (w : Store) => aStore (w)) 0 (fun _ => rfl)) (fun _ _ => rfl)); (refine (ex_op op_add_str o_catT ?_ ?_); (refine (ex_op op_add_str o_catT ?_ ?_); (refine (ex_slice sl_str o_cutT ?_ eo_none ?_); (exact (ex_var (P := aStr) (f := fun _ => a39) 1 (fun _ => rfl))); (refine (eo_some ?_); (exact (ex_var (P := aInt) (f := fun _ => a40) 2 (fun _ => rfl))))); (refine (ex_ix ix_str o_ixT ex_str ?_); (refine (ex_call1 (La := (fun z : (Unit × (Int × Unit)) => [(fun _ : Unit => aV v0) z.1, aInt z.2.1])) (kx := (fun (y : (Unit × (Int × Unit))) (w : Store) => (w, (y.2.1, ())))) (fm := fun y : (Store × (Int × Unit)) => m__law_take y.2.1 y.1) (A := aStore) (get := (fun (s : Store) => s)) (put := (fun (s : Store) w => w)) 0 0 (ok__law_take T) (hr.mono (by decide)) tk T.g__law_take T.kp__law_take (b__law_take T) ?_ (fun _ => rfl) (fun _ _ => rfl) (fun _ => rfl) (fun _ _ => rfl)); (refine (ea_cons (P := (fun _ : Unit => aV v0)) (Lb := (fun z : (Int × Unit) => [aInt z.1])) (ex_ref (A := fun (s : Store) => aStore s) 0 (fun _ => rfl)) ?_); (exact (ea_cons (P := aInt) (Lb := (fun z : Unit => [])) ex_int ea_nil)))))); (refine (ex_slice sl_str o_cutT ?_ ?_ eo_none); (exact (ex_var (P := aStr) (f := fun _ => a39) 1 (fun _ => rfl))); (refine (eo_some ?_); (exact (ex_var (P := aInt) (f := fun _ => a40) 2 (fun _ => rfl)))))))))))))))))))
theorem ok__law_bad_name (T : Txt K mg) : FnOk Pg w K mg base (L2.CX Pg w) 4 (He.ga K "_law_bad_name") (T.F__law_bad_name).choose ["store"] (spC mg K (fun y : (Store × Unit) => [aStore y.1]) [0] aStr (fun w => [aStore w]) fun y => m__law_bad_name  y.1) :=
  fn1 0 (pin := fun y : (Store × Unit) => [aStore y.1]) (A := aStore) (get := fun y => y.1) (m := fun y => m__law_bad_name ) (Γ := fun v0 y (s : Store) => [aAt v0 (aStore s), aNo, aNo, aNo]) (T.F__law_bad_name).choose_spec Sc__law_bad_name (fun _ => rfl) (fun _ => rfl) (fun _ _ => rfl) fun cdv A outer s H E hr tk hp v0 y => bo__law_bad_name T hr tk hp v0 
theorem b__law_bad_name (T : Txt K mg) : Binds K (T.F__law_bad_name).choose ["store"] [] := FunD.bindsN (T.F__law_bad_name).choose_spec fun _ _ _ _ _ _ us hl => match us, hl with | [_], _ => rfl
theorem Txt.kp__law_bad_name (T : Txt K mg) : PySem.W.keepIn K (.ref (He.ga K "_law_bad_name")) = true := (T.F__law_bad_name).choose_spec.kp
def m__law_near_name  : M Store Tx := (bdo (fun s => s) (((ret ()) >>= fun x => ((ret (6 : Int)) >>= fun x => (ret ()) >>= fun y => ret (x, y)) >>= fun y => ret (x, y)) >>= fun y => cio (fun s => s) (fun s w => w) fun w => m__law_take y.2.1 w) (fun _ s => s) fun a42 => (bdo (fun s => s) (((ret ()) >>= fun x => ((((ret (0 : Int)) >>= fun x => ((ret (1 : Int)) >>= fun x => ((ret (2 : Int)) >>= fun x => ((ret (5 : Int)) >>= fun x => ((ret (6 : Int)) >>= fun x => ((ret (7 : Int)) >>= fun x => ((ret (11 : Int)) >>= fun x => ((ret (12 : Int)) >>= fun x => ((ret (13 : Int)) >>= fun x => ((ret (39 : Int)) >>= fun x => ((ret (40 : Int)) >>= fun x => ((ret (41 : Int)) >>= fun x => (ret ()) >>= fun y => ret (x, y)) >>= fun y => ret (x, y)) >>= fun y => ret (x, y)) >>= fun y => ret (x, y)) >>= fun y => ret (x, y)) >>= fun y => ret (x, y)) >>= fun y => ret (x, y)) >>= fun y => ret (x, y)) >>= fun y => ret (x, y)) >>= fun y => ret (x, y)) >>= fun y => ret (x, y)) >>= fun y => ret (x, y)) >>= fun x => ret ((fun z : (Int × (Int × (Int × (Int × (Int × (Int × (Int × (Int × (Int × (Int × (Int × (Int × Unit)))))))))))) => ([z.1, z.2.1, z.2.2.1, z.2.2.2.1, z.2.2.2.2.1, z.2.2.2.2.2.1, z.2.2.2.2.2.2.1, z.2.2.2.2.2.2.2.1, z.2.2.2.2.2.2.2.2.1, z.2.2.2.2.2.2.2.2.2.1, z.2.2.2.2.2.2.2.2.2.2.1, z.2.2.2.2.2.2.2.2.2.2.2.1] : List Int)) x)) >>= fun x => (ret ()) >>= fun y => ret (x, y)) >>= fun y => ret (x, y)) >>= fun y => cio (fun s => s) (fun s w => w) fun w => m__law_pick y.2.1 w) (fun _ s => s) fun a43 => (bdo (fun s => s) ((rd fun _ => a42) >>= fun x => (ret (0 : Int)) >>= fun y => lf (some (decide (x = y)))) (fun _ s => s) fun k => if k = true then (bdo (fun s => s) (((ret ()) >>= fun x => (ret ()) >>= fun y => ret (x, y)) >>= fun y => cio (fun s => s) (fun s w => w) fun w => m__law_bad_name  w) (fun _ s => s) fun a s => .ok a (s)) else (bdo (fun s => s) ((rd fun _ => a42) >>= fun x => (ret (1 : Int)) >>= fun y => lf (some (decide (x = y)))) (fun _ s => s) fun k => if k = true then (bdo (fun s => s) (((ret ()) >>= fun x => ((((ret ()) >>= fun x => ((ret (0 : Int)) >>= fun x => ((ret (8 : Int)) >>= fun x => (ret ()) >>= fun y => ret (x, y)) >>= fun y => ret (x, y)) >>= fun y => ret (x, y)) >>= fun y => cio (fun s => s) (fun s w => w) fun w => m__law_edge y.2.1 y.2.2.1 w) >>= fun x => (ret ()) >>= fun y => ret (x, y)) >>= fun y => ret (x, y)) >>= fun y => cio (fun s => s) (fun s w => w) fun w => m__law_text y.2.1 w) (fun _ s => s) fun a s => .ok a (s)) else (bdo (fun s => s) ((rd fun _ => a42) >>= fun x => (ret (2 : Int)) >>= fun y => lf (some (decide (x = y)))) (fun _ s => s) fun k => if k = true then (bdo (fun s => s) ((((((ret ()) >>= fun x => ((ret (10 : Int)) >>= fun x => (ret ()) >>= fun y => ret (x, y)) >>= fun y => ret (x, y)) >>= fun y => cio (fun s => s) (fun s w => w) fun w => m__law_take y.2.1 w) >>= fun x => (ret ()) >>= fun y => ret (x, y)) >>= fun y => lf (strI y.1)) >>= fun x => (rd fun _ => a43) >>= fun y => lf (repT x y)) (fun _ s => s) fun a s => .ok a (s)) else (bdo (fun s => s) ((rd fun _ => a42) >>= fun x => (ret (3 : Int)) >>= fun y => lf (some (decide (x = y)))) (fun _ s => s) fun k => if k = true then (bdo (fun s => s) ((((((ret ()) >>= fun x => ((ret (1 : Int)) >>= fun x => ((ret (5 : Int)) >>= fun x => (ret ()) >>= fun y => ret (x, y)) >>= fun y => ret (x, y)) >>= fun y => ret (x, y)) >>= fun y => cio (fun s => s) (fun s w => w) fun w => m__law_edge y.2.1 y.2.2.1 w) >>= fun x => (ret ()) >>= fun y => ret (x, y)) >>= fun z => lf (rng1 z.1)) >>= fun xs => mpM (fun x44 => (((ret ()) >>= fun x => ((((ret ()) >>= fun x => ((ret (1 : Int)) >>= fun x => ((ret (12 : Int)) >>= fun x => (ret ()) >>= fun y => ret (x, y)) >>= fun y => ret (x, y)) >>= fun y => ret (x, y)) >>= fun y => cio (fun s => s) (fun s w => w) fun w => m__law_edge y.2.1 y.2.2.1 w) >>= fun x => (ret ()) >>= fun y => ret (x, y)) >>= fun y => ret (x, y)) >>= fun y => cio (fun s => s) (fun s w => w) fun w => m__law_run y.2.1 w)) xs) (fun a s => (a, s)) fun a45 => (bdo (fun s => s.2) ((((ret ()) >>= fun x => ((ret (4 : Int)) >>= fun x => (ret ()) >>= fun y => ret (x, y)) >>= fun y => ret (x, y)) >>= fun y => cio (fun s => s.2) (fun s w => (s.1, w)) fun w => m__law_take y.2.1 w) >>= fun x => (ret (0 : Int)) >>= fun y => lf (some (decide (x = y)))) (fun _ s => s) fun k => bdo (fun s => s.2) (if k = true then (bdo (fun s => s) ((((ret ()) >>= fun x => (ret ()) >>= fun y => ret (x, y)) >>= fun y => cio (fun s => s.2) (fun s w => (s.1, w)) fun w => m__law_bad_name  w) >>= fun a => (((ret ()) >>= fun x => ((rd fun s => ((s.1).length : Int)) >>= fun x => (ret ()) >>= fun y => ret (x, y)) >>= fun y => ret (x, y)) >>= fun y => cio (fun s => s.2) (fun s w => (s.1, w)) fun w => m__law_take y.2.1 w) >>= fun j => ixM (fun s => s.1) a j) (fun a s => ((s.1).set a.2 a.1, s.2)) fun a48 => (fun s => .ok () (s))) else (fun s => .ok () (s))) (fun _ s => s) fun (g47 : Unit) => (bdo (fun s => s.2) ((ret (tx "~")) >>= fun a => ms fun s => lf (joinT a (s.1)) s) (fun _ s => s) fun a s => .ok a (s.2)))) else (bdo (fun s => s) (((ret ()) >>= fun x => ((rd fun _ => a43) >>= fun x => (ret ()) >>= fun y => ret (x, y)) >>= fun y => ret (x, y)) >>= fun y => cio (fun s => s) (fun s w => w) fun w => m__law_run y.2.1 w) (fun _ s => s) fun a s => .ok a (s))))))))
abbrev N__law_near_name : List Str := ["store", "way", "size", "parts", "k"]
theorem Sc__law_near_name : FnScope N__law_near_name ["store"] (defScope s23) := ⟨rfl, rfl, rfl, by decide +kernel, rfl, by decide +kernel, by decide +kernel⟩
theorem bo__law_near_name (T : Txt K mg) {cdv : Value} {A : Around} {outer : List Env} {s0 : Shared} {H0 : Hp} {E : XK} (hr : Room 4 (Cb Pg w K mg base N__law_near_name "_law_near_name" (defScope s23) (He.ga K "_law_near_name") cdv A outer s0 H0 E).A) (tk : Takes (Cb Pg w K mg base N__law_near_name "_law_near_name" (defScope s23) (He.ga K "_law_near_name") cdv A outer s0 H0 E) (WF E)) (hp : PassesOwn (model Pg w) (Cb Pg w K mg base N__law_near_name "_law_near_name" (defScope s23) (He.ga K "_law_near_name") cdv A outer s0 H0 E).A (Cb Pg w K mg base N__law_near_name "_law_near_name" (defScope s23) (He.ga K "_law_near_name") cdv A outer s0 H0 E).env (Cb Pg w K mg base N__law_near_name "_law_near_name" (defScope s23) (He.ga K "_law_near_name") cdv A outer s0 H0 E).xe) (v0 : V)  :
    Bl (Cb Pg w K mg base N__law_near_name "_law_near_name" (defScope s23) (He.ga K "_law_near_name") cdv A outer s0 H0 E) (WF E) (fun (s : Store) => [aAt v0 (aStore s), aNo, aNo, aNo, aNo]) (defBody s23) (m__law_near_name ) (fun b u => .rt (aStr b) [aStore u] [v0]) (ehF mg K (fun w => [aStore w]) [v0]) :=
  (by refine (bl_set (Γ2 := fun (a42 : Int) (s : Store) => [aAt v0 (aStore s), aInt a42, aNo, aNo, aNo]) 1 ?_ (io1 (A := fun (w : Store) => aStore (w)) 0 (fun _ => rfl)).eh ?_ (fun _ _ => rfl) (Sc__law_near_name).nd); (refine (ex_call1 (La := (fun z : (Unit × (Int × Unit)) => [(fun _ : Unit => aV v0) z.1, aInt z.2.1])) (kx := (fun (y : (Unit × (Int × Unit))) (w : Store) => (w, (y.2.1, ())))) (fm := fun y : (Store × (Int × Unit)) => m__law_take y.2.1 y.1) (A := aStore) (get := (fun (s : Store) => s)) (put := (fun (s : Store) w => w)) 0 0 (ok__law_take T) (hr.mono (by decide)) tk T.g__law_take T.kp__law_take (b__law_take T) ?_ (fun _ => rfl) (fun _ _ => rfl) (fun _ => rfl) (fun _ _ => rfl)); (refine (ea_cons (P := (fun _ : Unit => aV v0)) (Lb := (fun z : (Int × Unit) => [aInt z.1])) (ex_ref (A := fun (s : Store) => aStore s) 0 (fun _ => rfl)) ?_); (exact (ea_cons (P := aInt) (Lb := (fun z : Unit => [])) ex_int ea_nil)))); (exact (fun a42 => (by refine (bl_set (Γ2 := fun (a43 : Int) (s : Store) => [aAt v0 (aStore s), aInt a42, aInt a43, aNo, aNo]) 2 ?_ (io1 (A := fun (w : Store) => aStore (w)) 0 (fun _ => rfl)).eh ?_ (fun _ _ => rfl) (Sc__law_near_name).nd); (refine (ex_call1 (La := (fun z : (Unit × ((List Int) × Unit)) => [(fun _ : Unit => aV v0) z.1, (aR aInt) z.2.1])) (kx := (fun (y : (Unit × ((List Int) × Unit))) (w : Store) => (w, (y.2.1, ())))) (fm := fun y : (Store × ((List Int) × Unit)) => m__law_pick y.2.1 y.1) (A := aStore) (get := (fun (s : Store) => s)) (put := (fun (s : Store) w => w)) 0 0 (ok__law_pick (P := aInt) T) (hr.mono (by decide)) tk T.g__law_pick T.kp__law_pick (b__law_pick T) ?_ (fun _ => rfl) (fun _ _ => rfl) (fun _ => rfl) (fun _ _ => rfl)); (refine (ea_cons (P := (fun _ : Unit => aV v0)) (Lb := (fun z : ((List Int) × Unit) => [(aR aInt) z.1])) (ex_ref (A := fun (s : Store) => aStore s) 0 (fun _ => rfl)) ?_); (refine (ea_cons (P := (aR aInt)) (Lb := (fun z : Unit => [])) ?_ ea_nil); (refine (ex_co (P := (aF aInt)) (P' := (aR aInt)) ?_ fun _ => co_fr); (refine (ex_frz (P := (aL aInt)) ?_ fun _ => frz_list); (refine (ex_map (P := fun z : (Int × (Int × (Int × (Int × (Int × (Int × (Int × (Int × (Int × (Int × (Int × (Int × Unit)))))))))))) => aLs [aInt z.1, aInt z.2.1, aInt z.2.2.1, aInt z.2.2.2.1, aInt z.2.2.2.2.1, aInt z.2.2.2.2.2.1, aInt z.2.2.2.2.2.2.1, aInt z.2.2.2.2.2.2.2.1, aInt z.2.2.2.2.2.2.2.2.1, aInt z.2.2.2.2.2.2.2.2.2.1, aInt z.2.2.2.2.2.2.2.2.2.2.1, aInt z.2.2.2.2.2.2.2.2.2.2.2.1]) (f := (fun z : (Int × (Int × (Int × (Int × (Int × (Int × (Int × (Int × (Int × (Int × (Int × (Int × Unit)))))))))))) => ([z.1, z.2.1, z.2.2.1, z.2.2.2.1, z.2.2.2.2.1, z.2.2.2.2.2.1, z.2.2.2.2.2.2.1, z.2.2.2.2.2.2.2.1, z.2.2.2.2.2.2.2.2.1, z.2.2.2.2.2.2.2.2.2.1, z.2.2.2.2.2.2.2.2.2.2.1, z.2.2.2.2.2.2.2.2.2.2.2.1] : List Int))) (Q := (aL aInt)) ?_ fun _ => rfl); (exact (ex_lst (L := fun z : (Int × (Int × (Int × (Int × (Int × (Int × (Int × (Int × (Int × (Int × (Int × (Int × Unit)))))))))))) => [aInt z.1, aInt z.2.1, aInt z.2.2.1, aInt z.2.2.2.1, aInt z.2.2.2.2.1, aInt z.2.2.2.2.2.1, aInt z.2.2.2.2.2.2.1, aInt z.2.2.2.2.2.2.2.1, aInt z.2.2.2.2.2.2.2.2.1, aInt z.2.2.2.2.2.2.2.2.2.1, aInt z.2.2.2.2.2.2.2.2.2.2.1, aInt z.2.2.2.2.2.2.2.2.2.2.2.1]) (by refine (ea_cons (P := aInt) (Lb := (fun z : (Int × (Int × (Int × (Int × (Int × (Int × (Int × (Int × (Int × (Int × (Int × Unit))))))))))) => [aInt z.1, aInt z.2.1, aInt z.2.2.1, aInt z.2.2.2.1, aInt z.2.2.2.2.1, aInt z.2.2.2.2.2.1, aInt z.2.2.2.2.2.2.1, aInt z.2.2.2.2.2.2.2.1, aInt z.2.2.2.2.2.2.2.2.1, aInt z.2.2.2.2.2.2.2.2.2.1, aInt z.2.2.2.2.2.2.2.2.2.2.1])) ex_int ?_); (refine (ea_cons (P := aInt) (Lb := (fun z : (Int × (Int × (Int × (Int × (Int × (Int × (Int × (Int × (Int × (Int × Unit)))))))))) => [aInt z.1, aInt z.2.1, aInt z.2.2.1, aInt z.2.2.2.1, aInt z.2.2.2.2.1, aInt z.2.2.2.2.2.1, aInt z.2.2.2.2.2.2.1, aInt z.2.2.2.2.2.2.2.1, aInt z.2.2.2.2.2.2.2.2.1, aInt z.2.2.2.2.2.2.2.2.2.1])) ex_int ?_); (refine (ea_cons (P := aInt) (Lb := (fun z : (Int × (Int × (Int × (Int × (Int × (Int × (Int × (Int × (Int × Unit))))))))) => [aInt z.1, aInt z.2.1, aInt z.2.2.1, aInt z.2.2.2.1, aInt z.2.2.2.2.1, aInt z.2.2.2.2.2.1, aInt z.2.2.2.2.2.2.1, aInt z.2.2.2.2.2.2.2.1, aInt z.2.2.2.2.2.2.2.2.1])) ex_int ?_); (refine (ea_cons (P := aInt) (Lb := (fun z : (Int × (Int × (Int × (Int × (Int × (Int × (Int × (Int × Unit)))))))) => [aInt z.1, aInt z.2.1, aInt z.2.2.1, aInt z.2.2.2.1, aInt z.2.2.2.2.1, aInt z.2.2.2.2.2.1, aInt z.2.2.2.2.2.2.1, aInt z.2.2.2.2.2.2.2.1])) ex_int ?_); (refine (ea_cons (P := aInt) (Lb := (fun z : (Int × (Int × (Int × (Int × (Int × (Int × (Int × Unit))))))) => [aInt z.1, aInt z.2.1, aInt z.2.2.1, aInt z.2.2.2.1, aInt z.2.2.2.2.1, aInt z.2.2.2.2.2.1, aInt z.2.2.2.2.2.2.1])) ex_int ?_); (refine (ea_cons (P := aInt) (Lb := (fun z : (Int × (Int × (Int × (Int × (Int × (Int × Unit)))))) => [aInt z.1, aInt z.2.1, aInt z.2.2.1, aInt z.2.2.2.1, aInt z.2.2.2.2.1, aInt z.2.2.2.2.2.1])) ex_int ?_); (refine (ea_cons (P := aInt) (Lb := (fun z : (Int × (Int × (Int × (Int × (Int × Unit))))) => [aInt z.1, aInt z.2.1, aInt z.2.2.1, aInt z.2.2.2.1, aInt z.2.2.2.2.1])) ex_int ?_); (refine (ea_cons (P := aInt) (Lb := (fun z : (Int × (Int × (Int × (Int × Unit)))) => [aInt z.1, aInt z.2.1, aInt z.2.2.1, aInt z.2.2.2.1])) ex_int ?_); (refine (ea_cons (P := aInt) (Lb := (fun z : (Int × (Int × (Int × Unit))) => [aInt z.1, aInt z.2.1, aInt z.2.2.1])) ex_int ?_); (refine (ea_cons (P := aInt) (Lb := (fun z : (Int × (Int × Unit)) => [aInt z.1, aInt z.2.1])) ex_int ?_); (refine (ea_cons (P := aInt) (Lb := (fun z : (Int × Unit) => [aInt z.1])) ex_int ?_); (exact (ea_cons (P := aInt) (Lb := (fun z : Unit => [])) ex_int ea_nil))))))))))))) (fun _ => (persL_cons (persL_cons (persL_cons (persL_cons (persL_cons (persL_cons (persL_cons (persL_cons (persL_cons (persL_cons (persL_cons (persL_cons persL_nil))))))))))))) (fun _ => szl (Nat.le_of_ble_eq_true rfl)))))))))); (exact (fun a43 => (by refine (bl_ifT ?_ (io1 (A := fun (w : Store) => aStore (w)) 0 (fun _ => rfl)).eh ?_ ?_ nonx); (refine (et_cmp op_eq o_eqI ?_ ex_int); (exact (ex_var (P := aInt) (f := fun _ => a42) 1 (fun _ => rfl)))); (refine (bl_ret (g := fun a => a) ?_ (io1 (A := fun (w : Store) => aStore (w)) 0 (fun _ => rfl)).eh (io1 (A := fun (w : Store) => aStore (w)) 0 (fun _ => rfl)) (fun _ _ => rfl)); (refine (ex_call1 (La := (fun z : (Unit × Unit) => [(fun _ : Unit => aV v0) z.1])) (kx := (fun (y : (Unit × Unit)) (w : Store) => (w, ()))) (fm := fun y : (Store × Unit) => m__law_bad_name  y.1) (A := aStore) (get := (fun (s : Store) => s)) (put := (fun (s : Store) w => w)) 0 0 (ok__law_bad_name T) (hr.mono (by decide)) tk T.g__law_bad_name T.kp__law_bad_name (b__law_bad_name T) ?_ (fun _ => rfl) (fun _ _ => rfl) (fun _ => rfl) (fun _ _ => rfl)); (exact (ea_cons (P := (fun _ : Unit => aV v0)) (Lb := (fun z : Unit => [])) (ex_ref (A := fun (s : Store) => aStore s) 0 (fun _ => rfl)) ea_nil)))); (refine (bl_ifT ?_ (io1 (A := fun (w : Store) => aStore (w)) 0 (fun _ => rfl)).eh ?_ ?_ nonx); (refine (et_cmp op_eq o_eqI ?_ ex_int); (exact (ex_var (P := aInt) (f := fun _ => a42) 1 (fun _ => rfl)))); (refine (bl_ret (g := fun a => a) ?_ (io1 (A := fun (w : Store) => aStore (w)) 0 (fun _ => rfl)).eh (io1 (A := fun (w : Store) => aStore (w)) 0 (fun _ => rfl)) (fun _ _ => rfl)); (refine (ex_call1 (La := (fun z : (Unit × (Int × Unit)) => [(fun _ : Unit => aV v0) z.1, aInt z.2.1])) (kx := (fun (y : (Unit × (Int × Unit))) (w : Store) => (w, (y.2.1, ())))) (fm := fun y : (Store × (Int × Unit)) => m__law_text y.2.1 y.1) (A := aStore) (get := (fun (s : Store) => s)) (put := (fun (s : Store) w => w)) 0 0 (ok__law_text T) (hr.mono (by decide)) tk T.g__law_text T.kp__law_text (b__law_text T) ?_ (fun _ => rfl) (fun _ _ => rfl) (fun _ => rfl) (fun _ _ => rfl)); (refine (ea_cons (P := (fun _ : Unit => aV v0)) (Lb := (fun z : (Int × Unit) => [aInt z.1])) (ex_ref (A := fun (s : Store) => aStore s) 0 (fun _ => rfl)) ?_); (refine (ea_cons (P := aInt) (Lb := (fun z : Unit => [])) ?_ ea_nil); (refine (ex_call1 (La := (fun z : (Unit × (Int × (Int × Unit))) => [(fun _ : Unit => aV v0) z.1, aInt z.2.1, aInt z.2.2.1])) (kx := (fun (y : (Unit × (Int × (Int × Unit)))) (w : Store) => (w, (y.2.1, (y.2.2.1, ()))))) (fm := fun y : (Store × (Int × (Int × Unit))) => m__law_edge y.2.1 y.2.2.1 y.1) (A := aStore) (get := (fun (s : Store) => s)) (put := (fun (s : Store) w => w)) 0 0 (ok__law_edge T) (hr.mono (by decide)) tk T.g__law_edge T.kp__law_edge (b__law_edge T) ?_ (fun _ => rfl) (fun _ _ => rfl) (fun _ => rfl) (fun _ _ => rfl)); (refine (ea_cons (P := (fun _ : Unit => aV v0)) (Lb := (fun z : (Int × (Int × Unit)) => [aInt z.1, aInt z.2.1])) (ex_ref (A := fun (s : Store) => aStore s) 0 (fun _ => rfl)) ?_); (refine (ea_cons (P := aInt) (Lb := (fun z : (Int × Unit) => [aInt z.1])) ex_int ?_); (exact (ea_cons (P := aInt) (Lb := (fun z : Unit => [])) ex_int ea_nil))))))))); (refine (bl_ifT ?_ (io1 (A := fun (w : Store) => aStore (w)) 0 (fun _ => rfl)).eh ?_ ?_ nonx); (refine (et_cmp op_eq o_eqI ?_ ex_int); (exact (ex_var (P := aInt) (f := fun _ => a42) 1 (fun _ => rfl)))); (refine (bl_ret (g := fun a => a) ?_ (io1 (A := fun (w : Store) => aStore (w)) 0 (fun _ => rfl)).eh (io1 (A := fun (w : Store) => aStore (w)) 0 (fun _ => rfl)) (fun _ _ => rfl)); (refine (ex_op G.op_repT o_repT ?_ ?_); (refine (ex_callT call_str_int b_strI T.n_str ?_); (refine (ea_cons (P := aInt) (Lb := (fun z : Unit => [])) ?_ ea_nil); (refine (ex_call1 (La := (fun z : (Unit × (Int × Unit)) => [(fun _ : Unit => aV v0) z.1, aInt z.2.1])) (kx := (fun (y : (Unit × (Int × Unit))) (w : Store) => (w, (y.2.1, ())))) (fm := fun y : (Store × (Int × Unit)) => m__law_take y.2.1 y.1) (A := aStore) (get := (fun (s : Store) => s)) (put := (fun (s : Store) w => w)) 0 0 (ok__law_take T) (hr.mono (by decide)) tk T.g__law_take T.kp__law_take (b__law_take T) ?_ (fun _ => rfl) (fun _ _ => rfl) (fun _ => rfl) (fun _ _ => rfl)); (refine (ea_cons (P := (fun _ : Unit => aV v0)) (Lb := (fun z : (Int × Unit) => [aInt z.1])) (ex_ref (A := fun (s : Store) => aStore s) 0 (fun _ => rfl)) ?_); (exact (ea_cons (P := aInt) (Lb := (fun z : Unit => [])) ex_int ea_nil)))))); (exact (ex_var (P := aInt) (f := fun _ => a43) 2 (fun _ => rfl))))); (refine (bl_ifT ?_ (io1 (A := fun (w : Store) => aStore (w)) 0 (fun _ => rfl)).eh ?_ ?_ nonx); (refine (et_cmp op_eq o_eqI ?_ ex_int); (exact (ex_var (P := aInt) (f := fun _ => a42) 1 (fun _ => rfl)))); (refine (bl_setLcP (Γ2 := fun (v46 : V) (a45 : (List Tx)) (s : ((List Tx) × Store)) => [aAt v0 (aStore s.2), aInt a42, aInt a43, aAt v46 ((aL aStr) s.1), aNo]) 3 ?_ (io1 (A := fun (w : Store) => aStore (w)) 0 (fun _ => rfl)).eh ?_ (fun _ _ _ => rfl) rfl); (refine (lcj [("k", 4)] (fun (x44 : Int) (s : Store) => [aAt v0 (aStore s), aInt a42, aInt a43, aNo, aInt x44]) ?_ (fun _ _ _ _ _ => (tg_name (P := aInt) 4 (Sc__law_near_name).nd)) (fun _ _ => rfl) ?_ (fun _ => inferInstance) (by decide) (un_cons (fun _ => rfl) un_nil) rfl (Sc__law_near_name).nd (blkOk_by rfl)); (refine (es_rng1 ?_ T.n_range); (refine (ea_cons (P := aInt) (Lb := (fun z : Unit => [])) ?_ ea_nil); (refine (ex_call1 (La := (fun z : (Unit × (Int × (Int × Unit))) => [(fun _ : Unit => aV v0) z.1, aInt z.2.1, aInt z.2.2.1])) (kx := (fun (y : (Unit × (Int × (Int × Unit)))) (w : Store) => (w, (y.2.1, (y.2.2.1, ()))))) (fm := fun y : (Store × (Int × (Int × Unit))) => m__law_edge y.2.1 y.2.2.1 y.1) (A := aStore) (get := (fun (s : Store) => s)) (put := (fun (s : Store) w => w)) 0 0 (ok__law_edge T) (hr.mono (by decide)) tk T.g__law_edge T.kp__law_edge (b__law_edge T) ?_ (fun _ => rfl) (fun _ _ => rfl) (fun _ => rfl) (fun _ _ => rfl)); (refine (ea_cons (P := (fun _ : Unit => aV v0)) (Lb := (fun z : (Int × (Int × Unit)) => [aInt z.1, aInt z.2.1])) (ex_ref (A := fun (s : Store) => aStore s) 0 (fun _ => rfl)) ?_); (refine (ea_cons (P := aInt) (Lb := (fun z : (Int × Unit) => [aInt z.1])) ex_int ?_); (exact (ea_cons (P := aInt) (Lb := (fun z : Unit => [])) ex_int ea_nil))))))); (exact (fun _ _ _ _ _ x44 => (by refine (ex_call1 (La := (fun z : (Unit × (Int × Unit)) => [(fun _ : Unit => aV v0) z.1, aInt z.2.1])) (kx := (fun (y : (Unit × (Int × Unit))) (w : Store) => (w, (y.2.1, ())))) (fm := fun y : (Store × (Int × Unit)) => m__law_run y.2.1 y.1) (A := aStore) (get := (fun (s : Store) => s)) (put := (fun (s : Store) w => w)) 0 0 (ok__law_run T) (hr.mono (by decide)) tk0 T.g__law_run T.kp__law_run (b__law_run T) ?_ (fun _ => rfl) (fun _ _ => rfl) (fun _ => rfl) (fun _ _ => rfl)); (refine (ea_cons (P := (fun _ : Unit => aV v0)) (Lb := (fun z : (Int × Unit) => [aInt z.1])) (ex_ref (A := fun (s : Store) => aStore s) 0 (fun _ => rfl)) ?_); (refine (ea_cons (P := aInt) (Lb := (fun z : Unit => [])) ?_ ea_nil); (refine (ex_call1 (La := (fun z : (Unit × (Int × (Int × Unit))) => [(fun _ : Unit => aV v0) z.1, aInt z.2.1, aInt z.2.2.1])) (kx := (fun (y : (Unit × (Int × (Int × Unit)))) (w : Store) => (w, (y.2.1, (y.2.2.1, ()))))) (fm := fun y : (Store × (Int × (Int × Unit))) => m__law_edge y.2.1 y.2.2.1 y.1) (A := aStore) (get := (fun (s : Store) => s)) (put := (fun (s : Store) w => w)) 0 0 (ok__law_edge T) (hr.mono (by decide)) tk0 T.g__law_edge T.kp__law_edge (b__law_edge T) ?_ (fun _ => rfl) (fun _ _ => rfl) (fun _ => rfl) (fun _ _ => rfl)); (refine (ea_cons (P := (fun _ : Unit => aV v0)) (Lb := (fun z : (Int × (Int × Unit)) => [aInt z.1, aInt z.2.1])) (ex_ref (A := fun (s : Store) => aStore s) 0 (fun _ => rfl)) ?_); (refine (ea_cons (P := aInt) (Lb := (fun z : (Int × Unit) => [aInt z.1])) ex_int ?_); (exact (ea_cons (P := aInt) (Lb := (fun z : Unit => [])) ex_int ea_nil))))))))))); (exact (fun v46 a45 => (by refine (bl_ifJ (L := fun (g47 : Unit) (s : ((List Tx) × Store)) => [aAt v0 (aStore s.2), aNo, aNo, aAt v46 ((aL aStr) s.1), aNo]) ?_ (io1 (A := fun (w : Store) => aStore (w)) 0 (fun _ => rfl)).eh ?_ (bl_nil (g := fun (s : ((List Tx) × Store)) => ()) (fun _ => rfl) (fun _ => rfl) (fun _ => (.same (.no (.no (.same (.same .nil))))))) ?_); (refine (et_cmp op_eq o_eqI ?_ ex_int); (refine (ex_call1 (La := (fun z : (Unit × (Int × Unit)) => [(fun _ : Unit => aV v0) z.1, aInt z.2.1])) (kx := (fun (y : (Unit × (Int × Unit))) (w : Store) => (w, (y.2.1, ())))) (fm := fun y : (Store × (Int × Unit)) => m__law_take y.2.1 y.1) (A := aStore) (get := (fun (s : ((List Tx) × Store)) => s.2)) (put := (fun (s : ((List Tx) × Store)) w => (s.1, w))) 0 0 (ok__law_take T) (hr.mono (by decide)) tk T.g__law_take T.kp__law_take (b__law_take T) ?_ (fun _ => rfl) (fun _ _ => rfl) (fun _ => rfl) (fun _ _ => rfl)); (refine (ea_cons (P := (fun _ : Unit => aV v0)) (Lb := (fun z : (Int × Unit) => [aInt z.1])) (ex_ref (A := fun (s : ((List Tx) × Store)) => aStore s.2) 0 (fun _ => rfl)) ?_); (exact (ea_cons (P := aInt) (Lb := (fun z : Unit => [])) ex_int ea_nil))))); (refine (bl_ixset (P := aStr) (get := fun (s : ((List Tx) × Store)) => s.1) (mk := fun a (s : ((List Tx) × Store)) => ((s.1).set a.2 a.1, s.2)) (Γ2 := fun _ (s : ((List Tx) × Store)) => [aAt v0 (aStore s.2), aInt a42, aInt a43, aAt v46 ((aL aStr) s.1), aNo]) 3 (fun _ => rfl) ?_ ?_ (io1 (A := fun (w : ((List Tx) × Store)) => aStore (w.2)) 0 (fun _ => rfl)).eh (fun _ => inferInstance) (fun a48 => (bl_nil (g := fun (s : ((List Tx) × Store)) => ()) (fun _ => rfl) (fun _ => rfl) (fun _ => (.same (.no (.no (.same (.same .nil)))))))) (fun _ _ => rfl)); (refine (ex_call1 (La := (fun z : (Unit × Unit) => [(fun _ : Unit => aV v0) z.1])) (kx := (fun (y : (Unit × Unit)) (w : Store) => (w, ()))) (fm := fun y : (Store × Unit) => m__law_bad_name  y.1) (A := aStore) (get := (fun (s : ((List Tx) × Store)) => s.2)) (put := (fun (s : ((List Tx) × Store)) w => (s.1, w))) 0 0 (ok__law_bad_name T) (hr.mono (by decide)) tk T.g__law_bad_name T.kp__law_bad_name (b__law_bad_name T) ?_ (fun _ => rfl) (fun _ _ => rfl) (fun _ => rfl) (fun _ _ => rfl)); (exact (ea_cons (P := (fun _ : Unit => aV v0)) (Lb := (fun z : Unit => [])) (ex_ref (A := fun (s : ((List Tx) × Store)) => aStore s.2) 0 (fun _ => rfl)) ea_nil))); (refine (ex_call1 (La := (fun z : (Unit × (Int × Unit)) => [(fun _ : Unit => aV v0) z.1, aInt z.2.1])) (kx := (fun (y : (Unit × (Int × Unit))) (w : Store) => (w, (y.2.1, ())))) (fm := fun y : (Store × (Int × Unit)) => m__law_take y.2.1 y.1) (A := aStore) (get := (fun (s : ((List Tx) × Store)) => s.2)) (put := (fun (s : ((List Tx) × Store)) w => (s.1, w))) 0 0 (ok__law_take T) (hr.mono (by decide)) tk T.g__law_take T.kp__law_take (b__law_take T) ?_ (fun _ => rfl) (fun _ _ => rfl) (fun _ => rfl) (fun _ _ => rfl)); (refine (ea_cons (P := (fun _ : Unit => aV v0)) (Lb := (fun z : (Int × Unit) => [aInt z.1])) (ex_ref (A := fun (s : ((List Tx) × Store)) => aStore s.2) 0 (fun _ => rfl)) ?_); (refine (ea_cons (P := aInt) (Lb := (fun z : Unit => [])) ?_ ea_nil); (exact (ex_lenB (P := aStr) (get := fun (s : ((List Tx) × Store)) => s.1) 3 (fun _ => rfl) T.n_len)))))); (exact (fun g47 => (by refine (bl_ret (g := fun a => a) ?_ (io1 (A := fun (w : Store) => aStore (w)) 0 (fun _ => rfl)).eh (io1 (A := fun (w : Store) => aStore (w)) 0 (fun _ => rfl)) (fun _ _ => rfl)); (exact (ex_joinB (get := fun (s : ((List Tx) × Store)) => s.1) 3 (fun _ => rfl) ex_str))))))))); (refine (bl_ret (g := fun a => a) ?_ (io1 (A := fun (w : Store) => aStore (w)) 0 (fun _ => rfl)).eh (io1 (A := fun (w : Store) => aStore (w)) 0 (fun _ => rfl)) (fun _ _ => rfl)); (refine (ex_call1 (La := (fun z : (Unit × (Int × Unit)) => [(fun _ : Unit => aV v0) z.1, aInt z.2.1])) (kx := (fun (y : (Unit × (Int × Unit))) (w : Store) => (w, (y.2.1, ())))) (fm := fun y : (Store × (Int × Unit)) => m__law_run y.2.1 y.1) (A := aStore) (get := (fun (s : Store) => s)) (put := (fun (s : Store) w => w)) 0 0 (ok__law_run T) (hr.mono (by decide)) tk T.g__law_run T.kp__law_run (b__law_run T) ?_ (fun _ => rfl) (fun _ _ => rfl) (fun _ => rfl) (fun _ _ => rfl)); (refine (ea_cons (P := (fun _ : Unit => aV v0)) (Lb := (fun z : (Int × Unit) => [aInt z.1])) (ex_ref (A := fun (s : Store) => aStore s) 0 (fun _ => rfl)) ?_); (refine (ea_cons (P := aInt) (Lb := (fun z : Unit => [])) ?_ ea_nil); (exact (ex_var (P := aInt) (f := fun _ => a43) 2 (fun _ => rfl)))))))))))))))))
theorem ok__law_near_name (T : Txt K mg) : FnOk Pg w K mg base (L2.CX Pg w) 5 (He.ga K "_law_near_name") (T.F__law_near_name).choose ["store"] (spC mg K (fun y : (Store × Unit) => [aStore y.1]) [0] aStr (fun w => [aStore w]) fun y => m__law_near_name  y.1) :=
  fn1 0 (pin := fun y : (Store × Unit) => [aStore y.1]) (A := aStore) (get := fun y => y.1) (m := fun y => m__law_near_name ) (Γ := fun v0 y (s : Store) => [aAt v0 (aStore s), aNo, aNo, aNo, aNo]) (T.F__law_near_name).choose_spec Sc__law_near_name (fun _ => rfl) (fun _ => rfl) (fun _ _ => rfl) fun cdv A outer s H E hr tk hp v0 y => bo__law_near_name T hr tk hp v0 
theorem b__law_near_name (T : Txt K mg) : Binds K (T.F__law_near_name).choose ["store"] [] := FunD.bindsN (T.F__law_near_name).choose_spec fun _ _ _ _ _ _ us hl => match us, hl with | [_], _ => rfl
theorem Txt.kp__law_near_name (T : Txt K mg) : PySem.W.keepIn K (.ref (He.ga K "_law_near_name")) = true := (T.F__law_near_name).choose_spec.kp
def m__law_is_run (p_text : Tx) (p_longest : Int) : M Unit Bool := (bdo (fun s => s) (((((rd fun _ => p_text) >>= fun x => (ret ()) >>= fun y => ret (x, y)) >>= fun y => lf (lenT y.1)) >>= fun x => (ret (1 : Int)) >>= fun y => lf (some (decide (x < y)))) >>= fun c => if c = true then ret true else (((((rd fun _ => p_text) >>= fun x => (ret ()) >>= fun y => ret (x, y)) >>= fun y => lf (lenT y.1)) >>= fun x => (rd fun _ => p_longest) >>= fun y => lf (some (decide (y < x)))) >>= fun c => if c = true then ret true else (((rd fun _ => p_text) >>= fun x => (ret (0 : Int)) >>= fun y => lf (ixT x y)) >>= fun x => (ret (tx "abcdefghijklmnopqrstuvwxyz")) >>= fun y => lf (notInT1 x y)))) (fun _ s => s) fun k => if k = true then (bdo (fun s => s) (ret false) (fun _ s => s) fun a s => .ok a (s)) else (bdo (fun s => s) (((rd fun _ => p_text) >>= fun x => ret () >>= fun y => ret (x, y)) >>= fun y => lf (if y.1.length ≤ SZ then some (y.1.map fun c => [c]) else none)) (fun _ s => s) fun xs => bdo (fun s => s) (forL (fun (g50 : Unit) (x49 : Tx) => (bdo (fun s => s) ((rd fun _ => x49) >>= fun x => (ret (tx "abcdefghijklmnopqrstuvwxyz0123456789")) >>= fun y => lf (notInT1 x y)) (fun _ s => s) fun k => if k = true then mpo (fun y => (Lp.go y)) (bdo (fun s => s) (ret false) (fun _ s => s) fun a s => .ok a (s)) else (fun s => .ok (Lp.nx ()) (s)))) xs ()) (fun _ s => s) (wyk (fun s => s) (fun y => y) fun (g50 : Unit) => (bdo (fun s => s) (ret true) (fun _ s => s) fun a s => .ok a (s)))))
abbrev N__law_is_run : List Str := ["text", "longest", "sign"]
theorem Sc__law_is_run : FnScope N__law_is_run ["text", "longest"] (defScope s24) := ⟨rfl, rfl, rfl, by decide +kernel, rfl, by decide +kernel, by decide +kernel⟩
theorem bo__law_is_run (T : Txt K mg) {cdv : Value} {A : Around} {outer : List Env} {s0 : Shared} {H0 : Hp} {E : XK} (hr : Room 0 (Cb Pg w K mg base N__law_is_run "_law_is_run" (defScope s24) (He.ga K "_law_is_run") cdv A outer s0 H0 E).A) (tk : Takes (Cb Pg w K mg base N__law_is_run "_law_is_run" (defScope s24) (He.ga K "_law_is_run") cdv A outer s0 H0 E) (WF E)) (hp : PassesOwn (model Pg w) (Cb Pg w K mg base N__law_is_run "_law_is_run" (defScope s24) (He.ga K "_law_is_run") cdv A outer s0 H0 E).A (Cb Pg w K mg base N__law_is_run "_law_is_run" (defScope s24) (He.ga K "_law_is_run") cdv A outer s0 H0 E).env (Cb Pg w K mg base N__law_is_run "_law_is_run" (defScope s24) (He.ga K "_law_is_run") cdv A outer s0 H0 E).xe) (p_text : Tx) (p_longest : Int) :
    Bl (Cb Pg w K mg base N__law_is_run "_law_is_run" (defScope s24) (He.ga K "_law_is_run") cdv A outer s0 H0 E) (WF E) (fun (s : Unit) => [aStr p_text, aInt p_longest, aNo]) (defBody s24) (m__law_is_run p_text p_longest) (fun b _ => .rt (aBl b) [] []) (ehF mg K (fun _ => []) []) :=
  (by refine (bl_ifT ?_ eh0 ?_ ?_ nonx); (refine (Ew.et ?_); (refine (ew_or ?_ ?_); (refine (et_cmp op_lt o_cmpI ?_ ex_int); (refine (ex_callB call_len_str b_lenT T.n_len ?_); (refine (ea_cons (P := aStr) (Lb := (fun z : Unit => [])) ?_ ea_nil); (exact (ex_var (P := aStr) (f := fun _ => p_text) 0 (fun _ => rfl)))))); (refine (ew_or ?_ ?_); (refine (et_cmp op_gt o_cmpI ?_ ?_); (refine (ex_callB call_len_str b_lenT T.n_len ?_); (refine (ea_cons (P := aStr) (Lb := (fun z : Unit => [])) ?_ ea_nil); (exact (ex_var (P := aStr) (f := fun _ => p_text) 0 (fun _ => rfl))))); (exact (ex_var (P := aInt) (f := fun _ => p_longest) 1 (fun _ => rfl)))); (refine (ew_or1 ?_); (refine (et_cmp op_notIn_sign o_notInT ?_ ex_str); (refine (ex_ix ix_str o_ixT ?_ ex_int); (exact (ex_var (P := aStr) (f := fun _ => p_text) 0 (fun _ => rfl))))))))); (exact (bl_ret (g := fun a => a) ex_bl eh0 io0 (fun _ _ => rfl))); (refine (bl_forL (g0 := ()) (ι := (fun y => y)) (L := fun (g50 : Unit) (s : Unit) => [aNo, aNo, aNo]) (Γb := fun (g50 : Unit) (x49 : Tx) (s : Unit) => [aNo, aNo, aStr x49]) ?_ eh0 (tg_name (P := aStr) 2 (Sc__law_is_run).nd) (fun _ => (.no (.no (.same .nil)))) (fun _ _ _ => rfl) ehq ?_ ?_ ort hp rfl); (refine (es_own ?_); (refine (ex_callT (call_listT rfl) b_listT T.n_list ?_); (refine (ea_cons (P := aStr) (Lb := (fun _ : Unit => [])) ?_ ea_nil); (exact (ex_var (P := aStr) (f := fun _ => p_text) 0 (fun _ => rfl)))))); (exact (fun g50 x49 => (by refine (bl_ifTm (ι := (fun y => (Lp.go y))) ?_ eh0 ?_ (bl_nil (g := fun (s : Unit) => (Lp.nx ())) (fun _ => rfl) (fun _ => rfl) (fun _ => (.same (.same (.no .nil))))) nonx); (refine (et_cmp op_notIn_sign o_notInT ?_ ex_str); (exact (ex_var (P := aStr) (f := fun _ => x49) 2 (fun _ => rfl)))); (exact (bl_ret (g := fun a => a) ex_bl eh0 io0 (fun _ _ => rfl)))))); (exact (fun g50 => (by exact (bl_ret (g := fun a => a) ex_bl eh0 io0 (fun _ _ => rfl)))))))
theorem ok__law_is_run (T : Txt K mg) : FnOk Pg w K mg base (L2.CX Pg w) 1 (He.ga K "_law_is_run") (T.F__law_is_run).choose ["text", "longest"] (spC mg K (fun y : (Tx × (Int × Unit)) => [aStr y.1, aInt y.2.1]) [] aBl (fun _ => []) fun y => m__law_is_run y.1 y.2.1 ()) :=
  fn0 (pin := fun y : (Tx × (Int × Unit)) => [aStr y.1, aInt y.2.1]) (m := fun y => m__law_is_run y.1 y.2.1) (Γ := fun y (s : Unit) => [aStr y.1, aInt y.2.1, aNo]) (T.F__law_is_run).choose_spec Sc__law_is_run (fun _ => rfl) (fun _ => rfl) fun cdv A outer s H E hr tk hp y => bo__law_is_run T hr tk hp y.1 y.2.1
theorem b__law_is_run (T : Txt K mg) : Binds K (T.F__law_is_run).choose ["text", "longest"] [] := FunD.bindsN (T.F__law_is_run).choose_spec fun _ _ _ _ _ _ us hl => match us, hl with | [_, _], _ => rfl
theorem Txt.kp__law_is_run (T : Txt K mg) : PySem.W.keepIn K (.ref (He.ga K "_law_is_run")) = true := (T.F__law_is_run).choose_spec.kp
def m__law_is_tail (p_text : Tx) : M Unit Bool := (bdo (fun s => s) (((rd fun _ => p_text) >>= fun x => ret () >>= fun y => ret (x, y)) >>= fun y => lf (if y.1.length ≤ SZ then some (y.1.map fun c => [c]) else none)) (fun _ s => s) fun xs => bdo (fun s => s) (forL (fun (g52 : Unit) (x51 : Tx) => (bdo (fun s => s) ((rd fun _ => x51) >>= fun x => (ret (tx "abcdefghijklmnopqrstuvwxyz0123456789")) >>= fun y => lf (notInT1 x y)) (fun _ s => s) fun k => if k = true then mpo (fun y => (Lp.go y)) (bdo (fun s => s) (ret false) (fun _ s => s) fun a s => .ok a (s)) else (fun s => .ok (Lp.nx ()) (s)))) xs ()) (fun _ s => s) (wyk (fun s => s) (fun y => y) fun (g52 : Unit) => (bdo (fun s => s) ((((rd fun _ => p_text) >>= fun x => (ret ()) >>= fun y => ret (x, y)) >>= fun y => lf (lenT y.1)) >>= fun x => (ret (7 : Int)) >>= fun y => lf (some (decide (x < y)))) (fun _ s => s) fun a s => .ok a (s))))
abbrev N__law_is_tail : List Str := ["text", "sign"]
theorem Sc__law_is_tail : FnScope N__law_is_tail ["text"] (defScope s25) := ⟨rfl, rfl, rfl, by decide +kernel, rfl, by decide +kernel, by decide +kernel⟩
theorem bo__law_is_tail (T : Txt K mg) {cdv : Value} {A : Around} {outer : List Env} {s0 : Shared} {H0 : Hp} {E : XK} (hr : Room 0 (Cb Pg w K mg base N__law_is_tail "_law_is_tail" (defScope s25) (He.ga K "_law_is_tail") cdv A outer s0 H0 E).A) (tk : Takes (Cb Pg w K mg base N__law_is_tail "_law_is_tail" (defScope s25) (He.ga K "_law_is_tail") cdv A outer s0 H0 E) (WF E)) (hp : PassesOwn (model Pg w) (Cb Pg w K mg base N__law_is_tail "_law_is_tail" (defScope s25) (He.ga K "_law_is_tail") cdv A outer s0 H0 E).A (Cb Pg w K mg base N__law_is_tail "_law_is_tail" (defScope s25) (He.ga K "_law_is_tail") cdv A outer s0 H0 E).env (Cb Pg w K mg base N__law_is_tail "_law_is_tail" (defScope s25) (He.ga K "_law_is_tail") cdv A outer s0 H0 E).xe) (p_text : Tx) :
    Bl (Cb Pg w K mg base N__law_is_tail "_law_is_tail" (defScope s25) (He.ga K "_law_is_tail") cdv A outer s0 H0 E) (WF E) (fun (s : Unit) => [aStr p_text, aNo]) (defBody s25) (m__law_is_tail p_text) (fun b _ => .rt (aBl b) [] []) (ehF mg K (fun _ => []) []) :=
  (by refine (bl_forL (g0 := ()) (ι := (fun y => y)) (L := fun (g52 : Unit) (s : Unit) => [aStr p_text, aNo]) (Γb := fun (g52 : Unit) (x51 : Tx) (s : Unit) => [aStr p_text, aStr x51]) ?_ eh0 (tg_name (P := aStr) 1 (Sc__law_is_tail).nd) (fun _ => (.same (.same .nil))) (fun _ _ _ => rfl) ehq ?_ ?_ ort hp rfl); (refine (es_own ?_); (refine (ex_callT (call_listT rfl) b_listT T.n_list ?_); (refine (ea_cons (P := aStr) (Lb := (fun _ : Unit => [])) ?_ ea_nil); (exact (ex_var (P := aStr) (f := fun _ => p_text) 0 (fun _ => rfl)))))); (exact (fun g52 x51 => (by refine (bl_ifTm (ι := (fun y => (Lp.go y))) ?_ eh0 ?_ (bl_nil (g := fun (s : Unit) => (Lp.nx ())) (fun _ => rfl) (fun _ => rfl) (fun _ => (.same (.no .nil)))) nonx); (refine (et_cmp op_notIn_sign o_notInT ?_ ex_str); (exact (ex_var (P := aStr) (f := fun _ => x51) 1 (fun _ => rfl)))); (exact (bl_ret (g := fun a => a) ex_bl eh0 io0 (fun _ _ => rfl)))))); (exact (fun g52 => (by refine (bl_ret (g := fun a => a) ?_ eh0 io0 (fun _ _ => rfl)); (refine (ex_cmp op_lt o_cmpI ?_ ex_int); (refine (ex_callB call_len_str b_lenT T.n_len ?_); (refine (ea_cons (P := aStr) (Lb := (fun z : Unit => [])) ?_ ea_nil); (exact (ex_var (P := aStr) (f := fun _ => p_text) 0 (fun _ => rfl))))))))))
theorem ok__law_is_tail (T : Txt K mg) : FnOk Pg w K mg base (L2.CX Pg w) 1 (He.ga K "_law_is_tail") (T.F__law_is_tail).choose ["text"] (spC mg K (fun y : (Tx × Unit) => [aStr y.1]) [] aBl (fun _ => []) fun y => m__law_is_tail y.1 ()) :=
  fn0 (pin := fun y : (Tx × Unit) => [aStr y.1]) (m := fun y => m__law_is_tail y.1) (Γ := fun y (s : Unit) => [aStr y.1, aNo]) (T.F__law_is_tail).choose_spec Sc__law_is_tail (fun _ => rfl) (fun _ => rfl) fun cdv A outer s H E hr tk hp y => bo__law_is_tail T hr tk hp y.1
theorem b__law_is_tail (T : Txt K mg) : Binds K (T.F__law_is_tail).choose ["text"] [] := FunD.bindsN (T.F__law_is_tail).choose_spec fun _ _ _ _ _ _ us hl => match us, hl with | [_], _ => rfl
theorem Txt.kp__law_is_tail (T : Txt K mg) : PySem.W.keepIn K (.ref (He.ga K "_law_is_tail")) = true := (T.F__law_is_tail).choose_spec.kp
def m__law_is_reading_name (p_text : Tx) : M Unit Bool := (bdo (fun s => s) ((rd fun _ => p_text) >>= fun x => ((ret (tx "~")) >>= fun x => (ret ()) >>= fun y => ret (x, y)) >>= fun y => lf (splitT x y.1)) (fun _ s => s) fun a53 => (bdo (fun s => s) (((rd fun _ => a53) >>= fun x => ret () >>= fun y => ret (x, y)) >>= fun y => lf (some y.1)) (fun _ s => s) fun xs => bdo (fun s => s) (forL (fun (g55 : Unit) (x54 : Tx) => (bdo (fun s => s) ((((rd fun _ => x54) >>= fun x => ((ret (12 : Int)) >>= fun x => (ret ()) >>= fun y => ret (x, y)) >>= fun y => ret (x, y)) >>= fun y => cpu (m__law_is_run y.1 y.2.1 ())) >>= fun c => ret (!c)) (fun _ s => s) fun k => if k = true then mpo (fun y => (Lp.go y)) (bdo (fun s => s) (ret false) (fun _ s => s) fun a s => .ok a (s)) else (fun s => .ok (Lp.nx ()) (s)))) xs ()) (fun _ s => s) (wyk (fun s => s) (fun y => y) fun (g55 : Unit) => (bdo (fun s => s) ((((rd fun _ => a53) >>= fun x => (ret ()) >>= fun y => ret (x, y)) >>= fun y => lf (some (y.1.length : Int))) >>= fun x => (ret (5 : Int)) >>= fun y => lf (some (decide (x < y)))) (fun _ s => s) fun a s => .ok a (s)))))
abbrev N__law_is_reading_name : List Str := ["text", "parts", "part"]
theorem Sc__law_is_reading_name : FnScope N__law_is_reading_name ["text"] (defScope s26) := ⟨rfl, rfl, rfl, by decide +kernel, rfl, by decide +kernel, by decide +kernel⟩
theorem bo__law_is_reading_name (T : Txt K mg) {cdv : Value} {A : Around} {outer : List Env} {s0 : Shared} {H0 : Hp} {E : XK} (hr : Room 1 (Cb Pg w K mg base N__law_is_reading_name "_law_is_reading_name" (defScope s26) (He.ga K "_law_is_reading_name") cdv A outer s0 H0 E).A) (tk : Takes (Cb Pg w K mg base N__law_is_reading_name "_law_is_reading_name" (defScope s26) (He.ga K "_law_is_reading_name") cdv A outer s0 H0 E) (WF E)) (hp : PassesOwn (model Pg w) (Cb Pg w K mg base N__law_is_reading_name "_law_is_reading_name" (defScope s26) (He.ga K "_law_is_reading_name") cdv A outer s0 H0 E).A (Cb Pg w K mg base N__law_is_reading_name "_law_is_reading_name" (defScope s26) (He.ga K "_law_is_reading_name") cdv A outer s0 H0 E).env (Cb Pg w K mg base N__law_is_reading_name "_law_is_reading_name" (defScope s26) (He.ga K "_law_is_reading_name") cdv A outer s0 H0 E).xe) (p_text : Tx) :
    Bl (Cb Pg w K mg base N__law_is_reading_name "_law_is_reading_name" (defScope s26) (He.ga K "_law_is_reading_name") cdv A outer s0 H0 E) (WF E) (fun (s : Unit) => [aStr p_text, aNo, aNo]) (defBody s26) (m__law_is_reading_name p_text) (fun b _ => .rt (aBl b) [] []) (ehF mg K (fun _ => []) []) :=
  (by refine (bl_set (Γ2 := fun (a53 : (List Tx)) (s : Unit) => [aStr p_text, (aF aStr) a53, aNo]) 1 ?_ eh0 ?_ (fun _ _ => rfl) (Sc__law_is_reading_name).nd); (refine (ex_frz (P := (aL aStr)) ?_ fun _ => frz_list); (refine (ex_bm PySem.F.plainAttrs_str PySem.F.slot_str_split PySem.F.type_str_split mt_split m_split (fun _ => ty_str) ?_ ?_); (exact (ex_var (P := aStr) (f := fun _ => p_text) 0 (fun _ => rfl))); (exact (ea_cons (P := aStr) (Lb := (fun z : Unit => [])) ex_str ea_nil)))); (exact (fun a53 => (by refine (bl_forL (g0 := ()) (ι := (fun y => y)) (L := fun (g55 : Unit) (s : Unit) => [aNo, (aF aStr) a53, aNo]) (Γb := fun (g55 : Unit) (x54 : Tx) (s : Unit) => [aNo, (aF aStr) a53, aStr x54]) ?_ eh0 (tg_name (P := aStr) 2 (Sc__law_is_reading_name).nd) (fun _ => (.no (.same (.same .nil)))) (fun _ _ _ => rfl) ehq ?_ ?_ ort hp rfl); (refine (es_own ?_); (refine (ex_callT call_list_of (b_list (P := aStr) (Pa := (aF aStr)) (fun _ => inferInstance)) T.n_list ?_); (refine (ea_cons (P := (aF aStr)) (Lb := (fun _ : Unit => [])) ?_ ea_nil); (exact (ex_var (P := (aF aStr)) (f := fun _ => a53) 1 (fun _ => rfl)))))); (exact (fun g55 x54 => (by refine (bl_ifTm (ι := (fun y => (Lp.go y))) ?_ eh0 ?_ (bl_nil (g := fun (s : Unit) => (Lp.nx ())) (fun _ => rfl) (fun _ => rfl) (fun _ => (.same (.same (.no .nil))))) nonx); (refine (et_not ?_); (refine (et_val ?_); (refine (ex_call0 (kx := fun y : (Tx × (Int × Unit)) => y) (fm := fun y : (Tx × (Int × Unit)) => m__law_is_run y.1 y.2.1 ()) (ok__law_is_run T) (hr.mono (by decide)) tk T.g__law_is_run T.kp__law_is_run (b__law_is_run T) ?_ (fun _ => rfl)); (refine (ea_cons (P := aStr) (Lb := (fun z : (Int × Unit) => [aInt z.1])) ?_ ?_); (exact (ex_var (P := aStr) (f := fun _ => x54) 2 (fun _ => rfl))); (exact (ea_cons (P := aInt) (Lb := (fun z : Unit => [])) ex_int ea_nil)))))); (exact (bl_ret (g := fun a => a) ex_bl eh0 io0 (fun _ _ => rfl)))))); (exact (fun g55 => (by refine (bl_ret (g := fun a => a) ?_ eh0 io0 (fun _ _ => rfl)); (refine (ex_cmp op_lt o_cmpI ?_ ex_int); (refine (ex_callB call_len_seq (b_lenQ (P := aStr) (Pa := (aF aStr)) (xs := fun x => x) (fun _ => inferInstance)) T.n_len ?_); (refine (ea_cons (P := (aF aStr)) (Lb := (fun z : Unit => [])) ?_ ea_nil); (exact (ex_var (P := (aF aStr)) (f := fun _ => a53) 1 (fun _ => rfl)))))))))))))
theorem ok__law_is_reading_name (T : Txt K mg) : FnOk Pg w K mg base (L2.CX Pg w) 2 (He.ga K "_law_is_reading_name") (T.F__law_is_reading_name).choose ["text"] (spC mg K (fun y : (Tx × Unit) => [aStr y.1]) [] aBl (fun _ => []) fun y => m__law_is_reading_name y.1 ()) :=
  fn0 (pin := fun y : (Tx × Unit) => [aStr y.1]) (m := fun y => m__law_is_reading_name y.1) (Γ := fun y (s : Unit) => [aStr y.1, aNo, aNo]) (T.F__law_is_reading_name).choose_spec Sc__law_is_reading_name (fun _ => rfl) (fun _ => rfl) fun cdv A outer s H E hr tk hp y => bo__law_is_reading_name T hr tk hp y.1
theorem b__law_is_reading_name (T : Txt K mg) : Binds K (T.F__law_is_reading_name).choose ["text"] [] := FunD.bindsN (T.F__law_is_reading_name).choose_spec fun _ _ _ _ _ _ us hl => match us, hl with | [_], _ => rfl
theorem Txt.kp__law_is_reading_name (T : Txt K mg) : PySem.W.keepIn K (.ref (He.ga K "_law_is_reading_name")) = true := (T.F__law_is_reading_name).choose_spec.kp
def m__law_is_whole (p_seen : D) : M Unit Bool := (bdo (fun s => s) ((((rd fun _ => p_seen) >>= fun x => (ret () >>= fun x => ret () >>= fun y => ret (x, y)) >>= fun y => ret (x, y)) >>= fun y => lf (D.isin "int" y.1)) >>= fun c => if c = true then ((((rd fun _ => p_seen) >>= fun x => (ret () >>= fun x => ret () >>= fun y => ret (x, y)) >>= fun y => ret (x, y)) >>= fun y => lf (D.isin "bool" y.1)) >>= fun c => ret (!c)) else ret false) (fun _ s => s) fun a s => .ok a (s))
abbrev N__law_is_whole : List Str := ["seen"]
theorem Sc__law_is_whole : FnScope N__law_is_whole ["seen"] (defScope s27) := ⟨rfl, rfl, rfl, by decide +kernel, rfl, by decide +kernel, by decide +kernel⟩
theorem bo__law_is_whole (T : Txt K mg) {cdv : Value} {A : Around} {outer : List Env} {s0 : Shared} {H0 : Hp} {E : XK} (hr : Room 0 (Cb Pg w K mg base N__law_is_whole "_law_is_whole" (defScope s27) (He.ga K "_law_is_whole") cdv A outer s0 H0 E).A) (tk : Takes (Cb Pg w K mg base N__law_is_whole "_law_is_whole" (defScope s27) (He.ga K "_law_is_whole") cdv A outer s0 H0 E) (WF E)) (hp : PassesOwn (model Pg w) (Cb Pg w K mg base N__law_is_whole "_law_is_whole" (defScope s27) (He.ga K "_law_is_whole") cdv A outer s0 H0 E).A (Cb Pg w K mg base N__law_is_whole "_law_is_whole" (defScope s27) (He.ga K "_law_is_whole") cdv A outer s0 H0 E).env (Cb Pg w K mg base N__law_is_whole "_law_is_whole" (defScope s27) (He.ga K "_law_is_whole") cdv A outer s0 H0 E).xe) (p_seen : D) :
    Bl (Cb Pg w K mg base N__law_is_whole "_law_is_whole" (defScope s27) (He.ga K "_law_is_whole") cdv A outer s0 H0 E) (WF E) (fun (s : Unit) => [aD p_seen]) (defBody s27) (m__law_is_whole p_seen) (fun b _ => .rt (aBl b) [] []) (ehF mg K (fun _ => []) []) :=
  (by refine (bl_ret (g := fun a => a) ?_ eh0 io0 (fun _ _ => rfl)); (refine (ex_and ?_ ?_); (refine (ex_callB call_isi (b_isi "int") T.n_isinstance ?_); (refine (ea_cons (P := aD) (Lb := fun _ : Unit × Unit => [aV (.ty "int")]) ?_ ?_); (exact (ex_var (P := aD) (f := fun _ => p_seen) 0 (fun _ => rfl))); (refine (ea_cons (P := (fun _ : Unit => aV (.ty "int"))) (Lb := (fun _ : Unit => [])) ?_ ea_nil); (exact (ex_ty "int" T.n_int))))); (refine (ex_one ?_); (refine (ex_not ?_); (exact (ex_callB call_isi (b_isi "bool") T.n_isinstance (by refine (ea_cons (P := aD) (Lb := fun _ : Unit × Unit => [aV (.ty "bool")]) ?_ ?_); (exact (ex_var (P := aD) (f := fun _ => p_seen) 0 (fun _ => rfl))); (refine (ea_cons (P := (fun _ : Unit => aV (.ty "bool"))) (Lb := (fun _ : Unit => [])) ?_ ea_nil); (exact (ex_ty "bool" T.n_bool))))))))))
theorem ok__law_is_whole (T : Txt K mg) : FnOk Pg w K mg base (L2.CX Pg w) 1 (He.ga K "_law_is_whole") (T.F__law_is_whole).choose ["seen"] (spC mg K (fun y : (D × Unit) => [aD y.1]) [] aBl (fun _ => []) fun y => m__law_is_whole y.1 ()) :=
  fn0 (pin := fun y : (D × Unit) => [aD y.1]) (m := fun y => m__law_is_whole y.1) (Γ := fun y (s : Unit) => [aD y.1]) (T.F__law_is_whole).choose_spec Sc__law_is_whole (fun _ => rfl) (fun _ => rfl) fun cdv A outer s H E hr tk hp y => bo__law_is_whole T hr tk hp y.1
theorem b__law_is_whole (T : Txt K mg) : Binds K (T.F__law_is_whole).choose ["seen"] [] := FunD.bindsN (T.F__law_is_whole).choose_spec fun _ _ _ _ _ _ us hl => match us, hl with | [_], _ => rfl
theorem Txt.kp__law_is_whole (T : Txt K mg) : PySem.W.keepIn K (.ref (He.ga K "_law_is_whole")) = true := (T.F__law_is_whole).choose_spec.kp
def m__law_same (p_seen : D) (p_due : D) : M Unit Bool := (bdo (fun s => s) ((((rd fun _ => p_seen) >>= fun x => ((rd fun _ => p_due) >>= fun x => (ret ()) >>= fun y => ret (x, y)) >>= fun y => ret (x, y)) >>= fun x => (ret ()) >>= fun y => ret (x, y)) >>= fun x => ret ((fun z : ((D × (D × Unit)) × Unit) => ([z.1] : List (D × (D × Unit)))) x)) (fun a s => (a, s)) fun a56 => (bdo (fun s => s.2) (whL (fun (g58 : Unit) => ((rd fun s => ((s.1).length : Int)) >>= fun x => (ret (0 : Int)) >>= fun y => lf (some (decide (y < x))))) (fun (g58 : Unit) => (bdo (fun s => s) (popM (fun s => s.1) (fun s l => (l, s.2))) (fun _ s => s) fun a59 => (bdo (fun s => s) ((rd fun _ => a59) >>= fun x => ret (x.1)) (fun _ s => s) fun a60 => (bdo (fun s => s) ((rd fun _ => a59) >>= fun x => ret (x.2.1)) (fun _ s => s) fun a61 => (bdo (fun s => s) (((rd fun _ => a61) >>= fun x => (ret ()) >>= fun y => lf (some x.isN)) >>= fun c => if c = true then ret true else (((rd fun _ => a61) >>= fun x => (ret () >>= fun x => ret () >>= fun y => ret (x, y)) >>= fun y => ret (x, y)) >>= fun y => lf (D.isin "bool" y.1))) (fun _ s => s) fun k => bdo (fun s => s) (if k = true then (bdo (fun s => s) ((((rd fun _ => a60) >>= fun x => (ret ()) >>= fun y => lf (some (!x.isN))) >>= fun c => if c = true then ((((rd fun _ => a60) >>= fun x => (ret () >>= fun x => ret () >>= fun y => ret (x, y)) >>= fun y => ret (x, y)) >>= fun y => lf (D.isin "bool" y.1)) >>= fun c => ret (!c)) else ret false) >>= fun c => if c = true then ret true else ((rd fun _ => a60) >>= fun x => (rd fun _ => a61) >>= fun y => lf (D.ne x y))) (fun _ s => s) fun k => if k = true then mpo (fun y => (Wy.go y)) (bdo (fun s => s) (ret false) (fun _ s => s) fun a s => .ok a (s)) else (fun s => .ok (Wy.nx ()) (s))) else (bdo (fun s => s) (((rd fun _ => a61) >>= fun x => (ret () >>= fun x => ret () >>= fun y => ret (x, y)) >>= fun y => ret (x, y)) >>= fun y => lf (D.isin "int" y.1)) (fun _ s => s) fun k => bdo (fun s => s) (if k = true then (bdo (fun s => s) (((((rd fun _ => a60) >>= fun x => (ret ()) >>= fun y => ret (x, y)) >>= fun y => cpu (m__law_is_whole y.1 ())) >>= fun c => ret (!c)) >>= fun c => if c = true then ret true else ((rd fun _ => a60) >>= fun x => (rd fun _ => a61) >>= fun y => lf (D.ne x y))) (fun _ s => s) fun k => if k = true then mpo (fun y => (Wy.go y)) (bdo (fun s => s) (ret false) (fun _ s => s) fun a s => .ok a (s)) else (fun s => .ok (Wy.nx ()) (s))) else (bdo (fun s => s) (((rd fun _ => a61) >>= fun x => (ret () >>= fun x => ret () >>= fun y => ret (x, y)) >>= fun y => ret (x, y)) >>= fun y => lf (D.isin "str" y.1)) (fun _ s => s) fun k => bdo (fun s => s) (if k = true then (bdo (fun s => s) (((((rd fun _ => a60) >>= fun x => (ret () >>= fun x => ret () >>= fun y => ret (x, y)) >>= fun y => ret (x, y)) >>= fun y => lf (D.isin "str" y.1)) >>= fun c => ret (!c)) >>= fun c => if c = true then ret true else ((rd fun _ => a60) >>= fun x => (rd fun _ => a61) >>= fun y => lf (D.ne x y))) (fun _ s => s) fun k => if k = true then mpo (fun y => (Wy.go y)) (bdo (fun s => s) (ret false) (fun _ s => s) fun a s => .ok a (s)) else (fun s => .ok (Wy.nx ()) (s))) else (bdo (fun s => s) (((rd fun _ => a61) >>= fun x => (ret () >>= fun x => ret () >>= fun y => ret (x, y)) >>= fun y => ret (x, y)) >>= fun y => lf (D.isin "dict" y.1)) (fun _ s => s) fun k => bdo (fun s => s) (if k = true then (bdo (fun s => s) (((((rd fun _ => a60) >>= fun x => (ret () >>= fun x => ret () >>= fun y => ret (x, y)) >>= fun y => ret (x, y)) >>= fun y => lf (D.isin "dict" y.1)) >>= fun c => ret (!c)) >>= fun c => if c = true then ret true else ((((rd fun _ => a60) >>= fun x => (ret ()) >>= fun y => ret (x, y)) >>= fun y => lf (y.1.its.map fun l => (l.length : Int))) >>= fun x => (((rd fun _ => a61) >>= fun x => (ret ()) >>= fun y => ret (x, y)) >>= fun y => lf (y.1.its.map fun l => (l.length : Int))) >>= fun y => lf (some (!decide (x = y))))) (fun _ s => s) fun k => if k = true then mpo (fun y => (Wy.go y)) (bdo (fun s => s) (ret false) (fun _ s => s) fun a s => .ok a (s)) else (fun _ => .st)) else (bdo (fun s => s) (((((rd fun _ => a61) >>= fun x => (ret () >>= fun x => ret () >>= fun y => ret (x, y)) >>= fun y => ret (x, y)) >>= fun y => lf (D.isin "tuple" y.1)) >>= fun x => (((rd fun _ => a60) >>= fun x => (ret () >>= fun x => ret () >>= fun y => ret (x, y)) >>= fun y => ret (x, y)) >>= fun y => lf (D.isin "tuple" y.1)) >>= fun y => lf (some (!(x == y)))) >>= fun c => if c = true then ret true else ((((rd fun _ => a61) >>= fun x => (ret () >>= fun x => ret () >>= fun y => ret (x, y)) >>= fun y => ret (x, y)) >>= fun y => lf (D.isin "list" y.1)) >>= fun x => (((rd fun _ => a60) >>= fun x => (ret () >>= fun x => ret () >>= fun y => ret (x, y)) >>= fun y => ret (x, y)) >>= fun y => lf (D.isin "list" y.1)) >>= fun y => lf (some (!(x == y))))) (fun _ s => s) fun k => if k = true then mpo (fun y => (Wy.go y)) (bdo (fun s => s) (ret false) (fun _ s => s) fun a s => .ok a (s)) else (bdo (fun s => s) ((((rd fun _ => a60) >>= fun x => (ret ()) >>= fun y => ret (x, y)) >>= fun y => lf (y.1.its.map fun l => (l.length : Int))) >>= fun x => (((rd fun _ => a61) >>= fun x => (ret ()) >>= fun y => ret (x, y)) >>= fun y => lf (y.1.its.map fun l => (l.length : Int))) >>= fun y => lf (some (!decide (x = y)))) (fun _ s => s) fun k => if k = true then mpo (fun y => (Wy.go y)) (bdo (fun s => s) (ret false) (fun _ s => s) fun a s => .ok a (s)) else (bdo (fun s => s) (((((rd fun _ => a61) >>= fun x => (ret ()) >>= fun y => ret (x, y)) >>= fun y => lf (y.1.its.map fun l => (l.length : Int))) >>= fun x => (ret ()) >>= fun y => ret (x, y)) >>= fun z => lf (rng1 z.1)) (fun _ s => s) fun xs => bdo (fun s => s) (forN (fun (g67 : Unit) (x66 : Int) => (bdo (fun s => s) ((((rd fun _ => a60) >>= fun x => (rd fun _ => x66) >>= fun y => lf (x.its.bind fun l => atI l y)) >>= fun x => (((rd fun _ => a61) >>= fun x => (rd fun _ => x66) >>= fun y => lf (x.its.bind fun l => atI l y)) >>= fun x => (ret ()) >>= fun y => ret (x, y)) >>= fun y => ret (x, y)) >>= fun a => ms fun s => if (s.1).length < SZ then .ok a s else .st) (fun a s => (s.1 ++ [a], s.2)) fun a68 => (fun s => .ok () (s)))) xs ()) (fun _ s => s) fun (g67 : Unit) => (fun s => .ok (Wy.nx ()) (s)))))) (fun _ s => s) (wyk (fun s => s) (fun y => (Wy.go y)) fun (g65 : Unit) => (fun s => .ok (Wy.nx ()) (s))))) (fun _ s => s) (wyk (fun s => s) (fun y => (Wy.go y)) fun (g64 : Unit) => (fun s => .ok (Wy.nx ()) (s))))) (fun _ s => s) (wyk (fun s => s) (fun y => (Wy.go y)) fun (g63 : Unit) => (fun s => .ok (Wy.nx ()) (s))))) (fun _ s => s) (wyk (fun s => s) (fun y => (Lp.go y)) fun (g62 : Unit) => (fun s => .ok (Lp.nx ()) (s)))))))) 1000000 ()) (fun _ s => s) (wyk (fun s => s.2) (fun y => y) fun (g58 : Unit) => (bdo (fun s => s.2) (ret true) (fun _ s => s) fun a s => .ok a (s.2)))))
abbrev N__law_same : List Str := ["seen", "due", "left", "pair", "one", "two", "key", "k"]
theorem Sc__law_same : FnScope N__law_same ["seen", "due"] (defScope s28) := ⟨rfl, rfl, rfl, by decide +kernel, rfl, by decide +kernel, by decide +kernel⟩
theorem bo__law_same (T : Txt K mg) {cdv : Value} {A : Around} {outer : List Env} {s0 : Shared} {H0 : Hp} {E : XK} (hr : Room 1 (Cb Pg w K mg base N__law_same "_law_same" (defScope s28) (He.ga K "_law_same") cdv A outer s0 H0 E).A) (tk : Takes (Cb Pg w K mg base N__law_same "_law_same" (defScope s28) (He.ga K "_law_same") cdv A outer s0 H0 E) (WF E)) (hp : PassesOwn (model Pg w) (Cb Pg w K mg base N__law_same "_law_same" (defScope s28) (He.ga K "_law_same") cdv A outer s0 H0 E).A (Cb Pg w K mg base N__law_same "_law_same" (defScope s28) (He.ga K "_law_same") cdv A outer s0 H0 E).env (Cb Pg w K mg base N__law_same "_law_same" (defScope s28) (He.ga K "_law_same") cdv A outer s0 H0 E).xe) (p_seen : D) (p_due : D) :
    Bl (Cb Pg w K mg base N__law_same "_law_same" (defScope s28) (He.ga K "_law_same") cdv A outer s0 H0 E) (WF E) (fun (s : Unit) => [aD p_seen, aD p_due, aNo, aNo, aNo, aNo, aNo, aNo]) (defBody s28) (m__law_same p_seen p_due) (fun b _ => .rt (aBl b) [] []) (ehF mg K (fun _ => []) []) :=
  (by refine (bl_setP (Γ2 := fun (v57 : V) (a56 : (List (D × (D × Unit)))) (s : ((List (D × (D × Unit))) × Unit)) => [aD p_seen, aD p_due, aAt v57 ((aL (aP2 aD aD)) s.1), aNo, aNo, aNo, aNo, aNo]) 2 ?_ eh0 ?_ (fun _ _ _ => rfl) (Sc__law_same).nd); (refine (ex_map (P := fun z : ((D × (D × Unit)) × Unit) => aLs [(aP2 aD aD) z.1]) (f := (fun z : ((D × (D × Unit)) × Unit) => ([z.1] : List (D × (D × Unit))))) (Q := (aL (aP2 aD aD))) ?_ fun _ => rfl); (exact (ex_lst (L := fun z : ((D × (D × Unit)) × Unit) => [(aP2 aD aD) z.1]) (by refine (ea_cons (P := (aP2 aD aD)) (Lb := (fun z : Unit => [])) ?_ ea_nil); (refine (ex_tup (L := fun z : (D × (D × Unit)) => [aD z.1, aD z.2.1]) ?_ (fun _ => (persL_cons (persL_cons persL_nil))) (fun _ => szl (Nat.le_of_ble_eq_true rfl))); (refine (ea_cons (P := aD) (Lb := (fun z : (D × Unit) => [aD z.1])) ?_ ?_); (exact (ex_var (P := aD) (f := fun _ => p_seen) 0 (fun _ => rfl))); (refine (ea_cons (P := aD) (Lb := (fun z : Unit => [])) ?_ ea_nil); (exact (ex_var (P := aD) (f := fun _ => p_due) 1 (fun _ => rfl))))))) (fun _ => (persL_cons persL_nil)) (fun _ => szl (Nat.le_of_ble_eq_true rfl))))); (exact (fun v57 a56 => (by refine (bl_whileL (g0 := ()) (ι := (fun y => y)) 1000000 (L := fun (g58 : Unit) (s : ((List (D × (D × Unit))) × Unit)) => [aNo, aNo, aAt v57 ((aL (aP2 aD aD)) s.1), aNo, aNo, aNo, aNo, aNo]) ?_ (fun _ => eh0) (fun _ => (.no (.no (.same (.same (.same (.same (.same (.same .nil))))))))) ?_ ?_ ort hp); (exact (fun g58 => (by refine (et_cmp op_gt o_cmpI ?_ ex_int); (exact (ex_lenB (P := (aP2 aD aD)) (get := fun (s : ((List (D × (D × Unit))) × Unit)) => s.1) 2 (fun _ => rfl) T.n_len))))); (exact (fun g58 => (by refine (bl_set (Γ2 := fun (a59 : (D × (D × Unit))) (s : ((List (D × (D × Unit))) × Unit)) => [aNo, aNo, aAt v57 ((aL (aP2 aD aD)) s.1), (aP2 aD aD) a59, aNo, aNo, aNo, aNo]) 3 ?_ eh0 ?_ (fun _ _ => rfl) (Sc__law_same).nd); (exact (ex_popB (P := (aP2 aD aD)) (get := fun (s : ((List (D × (D × Unit))) × Unit)) => s.1) (put := fun (s : ((List (D × (D × Unit))) × Unit)) l => (l, s.2)) 2 (fun _ => rfl) (fun _ _ => rfl))); (exact (fun a59 => (by refine (bl_set (Γ2 := fun (a60 : D) (s : ((List (D × (D × Unit))) × Unit)) => [aNo, aNo, aAt v57 ((aL (aP2 aD aD)) s.1), (aP2 aD aD) a59, aD a60, aNo, aNo, aNo]) 4 ?_ eh0 ?_ (fun _ _ => rfl) (Sc__law_same).nd); (refine (ex_at (L := fun z : (D × (D × Unit)) => [aD z.1, aD z.2.1]) (f := fun z => z.1) (Pc := aD) 0 ?_ (fun _ => rfl)); (exact (ex_var (P := (aP2 aD aD)) (f := fun _ => a59) 3 (fun _ => rfl)))); (exact (fun a60 => (by refine (bl_set (Γ2 := fun (a61 : D) (s : ((List (D × (D × Unit))) × Unit)) => [aNo, aNo, aAt v57 ((aL (aP2 aD aD)) s.1), (aP2 aD aD) a59, aD a60, aD a61, aNo, aNo]) 5 ?_ eh0 ?_ (fun _ _ => rfl) (Sc__law_same).nd); (refine (ex_at (L := fun z : (D × (D × Unit)) => [aD z.1, aD z.2.1]) (f := fun z => z.2.1) (Pc := aD) 1 ?_ (fun _ => rfl)); (exact (ex_var (P := (aP2 aD aD)) (f := fun _ => a59) 3 (fun _ => rfl)))); (exact (fun a61 => (by refine (bl_ifW (ι := (fun y => (Lp.go y))) (L := fun (g62 : Unit) (s : ((List (D × (D × Unit))) × Unit)) => [aNo, aNo, aAt v57 ((aL (aP2 aD aD)) s.1), aNo, aNo, aNo, aNo, aNo]) ?_ eh0 ?_ ?_ (fun g62 => (bl_nil (g := fun (s : ((List (D × (D × Unit))) × Unit)) => (Lp.nx ())) (fun _ => rfl) (fun _ => rfl) (fun _ => (.same (.same (.same (.same (.same (.same (.same (.same .nil))))))))))) nonx); (refine (Ew.et ?_); (refine (ew_or ?_ ?_); (refine (et_cmp op_isN1 o_isND ?_ ex_non); (exact (ex_var (P := aD) (f := fun _ => a61) 5 (fun _ => rfl)))); (refine (ew_or1 ?_); (refine (et_val ?_); (refine (ex_callB call_isi (b_isi "bool") T.n_isinstance ?_); (refine (ea_cons (P := aD) (Lb := fun _ : Unit × Unit => [aV (.ty "bool")]) ?_ ?_); (exact (ex_var (P := aD) (f := fun _ => a61) 5 (fun _ => rfl))); (refine (ea_cons (P := (fun _ : Unit => aV (.ty "bool"))) (Lb := (fun _ : Unit => [])) ?_ ea_nil); (exact (ex_ty "bool" T.n_bool))))))))); (refine (bl_ifTm (ι := (fun y => (Wy.go y))) ?_ eh0 ?_ (bl_nil (g := fun (s : ((List (D × (D × Unit))) × Unit)) => (Wy.nx ())) (fun _ => rfl) (fun _ => rfl) (fun _ => (.same (.same (.same (.no (.no (.no (.same (.same .nil)))))))))) nonx); (refine (Ew.et ?_); (refine (ew_or ?_ ?_); (refine (Ew.et ?_); (refine (ew_and ?_ ?_); (refine (et_cmp op_notN1 o_notND ?_ ex_non); (exact (ex_var (P := aD) (f := fun _ => a60) 4 (fun _ => rfl)))); (refine (ew_and1 ?_); (refine (et_not ?_); (refine (et_val ?_); (refine (ex_callB call_isi (b_isi "bool") T.n_isinstance ?_); (refine (ea_cons (P := aD) (Lb := fun _ : Unit × Unit => [aV (.ty "bool")]) ?_ ?_); (exact (ex_var (P := aD) (f := fun _ => a60) 4 (fun _ => rfl))); (refine (ea_cons (P := (fun _ : Unit => aV (.ty "bool"))) (Lb := (fun _ : Unit => [])) ?_ ea_nil); (exact (ex_ty "bool" T.n_bool)))))))))); (refine (ew_or1 ?_); (refine (et_cmp op_ne o_neD ?_ ?_); (exact (ex_var (P := aD) (f := fun _ => a60) 4 (fun _ => rfl))); (exact (ex_var (P := aD) (f := fun _ => a61) 5 (fun _ => rfl))))))); (exact (bl_ret (g := fun a => a) ex_bl eh0 io0 (fun _ _ => rfl)))); (refine (bl_ifW (ι := (fun y => (Wy.go y))) (L := fun (g63 : Unit) (s : ((List (D × (D × Unit))) × Unit)) => [aNo, aNo, aAt v57 ((aL (aP2 aD aD)) s.1), aNo, aNo, aNo, aNo, aNo]) ?_ eh0 ?_ ?_ (fun g63 => (bl_nil (g := fun (s : ((List (D × (D × Unit))) × Unit)) => (Wy.nx ())) (fun _ => rfl) (fun _ => rfl) (fun _ => (.same (.same (.same (.same (.same (.same (.same (.same .nil))))))))))) nonx); (refine (et_val ?_); (refine (ex_callB call_isi (b_isi "int") T.n_isinstance ?_); (refine (ea_cons (P := aD) (Lb := fun _ : Unit × Unit => [aV (.ty "int")]) ?_ ?_); (exact (ex_var (P := aD) (f := fun _ => a61) 5 (fun _ => rfl))); (refine (ea_cons (P := (fun _ : Unit => aV (.ty "int"))) (Lb := (fun _ : Unit => [])) ?_ ea_nil); (exact (ex_ty "int" T.n_int)))))); (refine (bl_ifTm (ι := (fun y => (Wy.go y))) ?_ eh0 ?_ (bl_nil (g := fun (s : ((List (D × (D × Unit))) × Unit)) => (Wy.nx ())) (fun _ => rfl) (fun _ => rfl) (fun _ => (.same (.same (.same (.no (.no (.no (.same (.same .nil)))))))))) nonx); (refine (Ew.et ?_); (refine (ew_or ?_ ?_); (refine (et_not ?_); (refine (et_val ?_); (refine (ex_call0 (kx := fun y : (D × Unit) => y) (fm := fun y : (D × Unit) => m__law_is_whole y.1 ()) (ok__law_is_whole T) (hr.mono (by decide)) tk T.g__law_is_whole T.kp__law_is_whole (b__law_is_whole T) ?_ (fun _ => rfl)); (refine (ea_cons (P := aD) (Lb := (fun z : Unit => [])) ?_ ea_nil); (exact (ex_var (P := aD) (f := fun _ => a60) 4 (fun _ => rfl))))))); (refine (ew_or1 ?_); (refine (et_cmp op_ne o_neD ?_ ?_); (exact (ex_var (P := aD) (f := fun _ => a60) 4 (fun _ => rfl))); (exact (ex_var (P := aD) (f := fun _ => a61) 5 (fun _ => rfl))))))); (exact (bl_ret (g := fun a => a) ex_bl eh0 io0 (fun _ _ => rfl)))); (refine (bl_ifW (ι := (fun y => (Wy.go y))) (L := fun (g64 : Unit) (s : ((List (D × (D × Unit))) × Unit)) => [aNo, aNo, aAt v57 ((aL (aP2 aD aD)) s.1), aNo, aNo, aNo, aNo, aNo]) ?_ eh0 ?_ ?_ (fun g64 => (bl_nil (g := fun (s : ((List (D × (D × Unit))) × Unit)) => (Wy.nx ())) (fun _ => rfl) (fun _ => rfl) (fun _ => (.same (.same (.same (.same (.same (.same (.same (.same .nil))))))))))) nonx); (refine (et_val ?_); (refine (ex_callB call_isi (b_isi "str") T.n_isinstance ?_); (refine (ea_cons (P := aD) (Lb := fun _ : Unit × Unit => [aV (.ty "str")]) ?_ ?_); (exact (ex_var (P := aD) (f := fun _ => a61) 5 (fun _ => rfl))); (refine (ea_cons (P := (fun _ : Unit => aV (.ty "str"))) (Lb := (fun _ : Unit => [])) ?_ ea_nil); (exact (ex_ty "str" T.n_str)))))); (refine (bl_ifTm (ι := (fun y => (Wy.go y))) ?_ eh0 ?_ (bl_nil (g := fun (s : ((List (D × (D × Unit))) × Unit)) => (Wy.nx ())) (fun _ => rfl) (fun _ => rfl) (fun _ => (.same (.same (.same (.no (.no (.no (.same (.same .nil)))))))))) nonx); (refine (Ew.et ?_); (refine (ew_or ?_ ?_); (refine (et_not ?_); (refine (et_val ?_); (refine (ex_callB call_isi (b_isi "str") T.n_isinstance ?_); (refine (ea_cons (P := aD) (Lb := fun _ : Unit × Unit => [aV (.ty "str")]) ?_ ?_); (exact (ex_var (P := aD) (f := fun _ => a60) 4 (fun _ => rfl))); (refine (ea_cons (P := (fun _ : Unit => aV (.ty "str"))) (Lb := (fun _ : Unit => [])) ?_ ea_nil); (exact (ex_ty "str" T.n_str))))))); (refine (ew_or1 ?_); (refine (et_cmp op_ne o_neD ?_ ?_); (exact (ex_var (P := aD) (f := fun _ => a60) 4 (fun _ => rfl))); (exact (ex_var (P := aD) (f := fun _ => a61) 5 (fun _ => rfl))))))); (exact (bl_ret (g := fun a => a) ex_bl eh0 io0 (fun _ _ => rfl)))); (refine (bl_ifW (ι := (fun y => (Wy.go y))) (L := fun (g65 : Unit) (s : ((List (D × (D × Unit))) × Unit)) => [aNo, aNo, aAt v57 ((aL (aP2 aD aD)) s.1), aNo, aNo, aNo, aNo, aNo]) ?_ eh0 ?_ ?_ (fun g65 => (bl_nil (g := fun (s : ((List (D × (D × Unit))) × Unit)) => (Wy.nx ())) (fun _ => rfl) (fun _ => rfl) (fun _ => (.same (.same (.same (.same (.same (.same (.same (.same .nil))))))))))) nonx); (refine (et_val ?_); (refine (ex_callB call_isi (b_isi "dict") T.n_isinstance ?_); (refine (ea_cons (P := aD) (Lb := fun _ : Unit × Unit => [aV (.ty "dict")]) ?_ ?_); (exact (ex_var (P := aD) (f := fun _ => a61) 5 (fun _ => rfl))); (refine (ea_cons (P := (fun _ : Unit => aV (.ty "dict"))) (Lb := (fun _ : Unit => [])) ?_ ea_nil); (exact (ex_ty "dict" T.n_dict)))))); (refine (bl_ifTm (ι := (fun y => (Wy.go y))) ?_ eh0 ?_ bl_stk nonx); (refine (Ew.et ?_); (refine (ew_or ?_ ?_); (refine (et_not ?_); (refine (et_val ?_); (refine (ex_callB call_isi (b_isi "dict") T.n_isinstance ?_); (refine (ea_cons (P := aD) (Lb := fun _ : Unit × Unit => [aV (.ty "dict")]) ?_ ?_); (exact (ex_var (P := aD) (f := fun _ => a60) 4 (fun _ => rfl))); (refine (ea_cons (P := (fun _ : Unit => aV (.ty "dict"))) (Lb := (fun _ : Unit => [])) ?_ ea_nil); (exact (ex_ty "dict" T.n_dict))))))); (refine (ew_or1 ?_); (refine (et_cmp op_ne o_neI ?_ ?_); (refine (ex_callB call_len_seq b_lenD T.n_len ?_); (refine (ea_cons (P := aD) (Lb := (fun z : Unit => [])) ?_ ea_nil); (exact (ex_var (P := aD) (f := fun _ => a60) 4 (fun _ => rfl))))); (refine (ex_callB call_len_seq b_lenD T.n_len ?_); (refine (ea_cons (P := aD) (Lb := (fun z : Unit => [])) ?_ ea_nil); (exact (ex_var (P := aD) (f := fun _ => a61) 5 (fun _ => rfl))))))))); (exact (bl_ret (g := fun a => a) ex_bl eh0 io0 (fun _ _ => rfl)))); (refine (bl_ifTm (ι := (fun y => (Wy.go y))) ?_ eh0 ?_ ?_ nonx); (refine (Ew.et ?_); (refine (ew_or ?_ ?_); (refine (et_cmp op_ne o_neB ?_ ?_); (refine (ex_callB call_isi (b_isi "tuple") T.n_isinstance ?_); (refine (ea_cons (P := aD) (Lb := fun _ : Unit × Unit => [aV (.ty "tuple")]) ?_ ?_); (exact (ex_var (P := aD) (f := fun _ => a61) 5 (fun _ => rfl))); (refine (ea_cons (P := (fun _ : Unit => aV (.ty "tuple"))) (Lb := (fun _ : Unit => [])) ?_ ea_nil); (exact (ex_ty "tuple" T.n_tuple))))); (refine (ex_callB call_isi (b_isi "tuple") T.n_isinstance ?_); (refine (ea_cons (P := aD) (Lb := fun _ : Unit × Unit => [aV (.ty "tuple")]) ?_ ?_); (exact (ex_var (P := aD) (f := fun _ => a60) 4 (fun _ => rfl))); (refine (ea_cons (P := (fun _ : Unit => aV (.ty "tuple"))) (Lb := (fun _ : Unit => [])) ?_ ea_nil); (exact (ex_ty "tuple" T.n_tuple)))))); (refine (ew_or1 ?_); (refine (et_cmp op_ne o_neB ?_ ?_); (refine (ex_callB call_isi (b_isi "list") T.n_isinstance ?_); (refine (ea_cons (P := aD) (Lb := fun _ : Unit × Unit => [aV (.ty "list")]) ?_ ?_); (exact (ex_var (P := aD) (f := fun _ => a61) 5 (fun _ => rfl))); (refine (ea_cons (P := (fun _ : Unit => aV (.ty "list"))) (Lb := (fun _ : Unit => [])) ?_ ea_nil); (exact (ex_ty "list" T.n_list))))); (refine (ex_callB call_isi (b_isi "list") T.n_isinstance ?_); (refine (ea_cons (P := aD) (Lb := fun _ : Unit × Unit => [aV (.ty "list")]) ?_ ?_); (exact (ex_var (P := aD) (f := fun _ => a60) 4 (fun _ => rfl))); (refine (ea_cons (P := (fun _ : Unit => aV (.ty "list"))) (Lb := (fun _ : Unit => [])) ?_ ea_nil); (exact (ex_ty "list" T.n_list))))))))); (exact (bl_ret (g := fun a => a) ex_bl eh0 io0 (fun _ _ => rfl))); (refine (bl_ifTm (ι := (fun y => (Wy.go y))) ?_ eh0 ?_ ?_ nonx); (refine (et_cmp op_ne o_neI ?_ ?_); (refine (ex_callB call_len_seq b_lenD T.n_len ?_); (refine (ea_cons (P := aD) (Lb := (fun z : Unit => [])) ?_ ea_nil); (exact (ex_var (P := aD) (f := fun _ => a60) 4 (fun _ => rfl))))); (refine (ex_callB call_len_seq b_lenD T.n_len ?_); (refine (ea_cons (P := aD) (Lb := (fun z : Unit => [])) ?_ ea_nil); (exact (ex_var (P := aD) (f := fun _ => a61) 5 (fun _ => rfl)))))); (exact (bl_ret (g := fun a => a) ex_bl eh0 io0 (fun _ _ => rfl))); (refine (bl_for (g0 := ()) (L := fun (g67 : Unit) (s : ((List (D × (D × Unit))) × Unit)) => [aNo, aNo, aAt v57 ((aL (aP2 aD aD)) s.1), aNo, aD a60, aD a61, aNo, aNo]) (Γb := fun (g67 : Unit) (x66 : Int) (s : ((List (D × (D × Unit))) × Unit)) => [aNo, aNo, aAt v57 ((aL (aP2 aD aD)) s.1), aNo, aD a60, aD a61, aNo, aInt x66]) ?_ eh0 (tg_name (P := aInt) 7 (Sc__law_same).nd) (fun _ => (.same (.same (.same (.no (.same (.same (.same (.same .nil))))))))) (fun _ _ _ => rfl) ehq ?_ (fun g67 => (bl_nil (g := fun (s : ((List (D × (D × Unit))) × Unit)) => (Wy.nx ())) (fun _ => rfl) (fun _ => rfl) (fun _ => (.same (.same (.same (.same (.no (.no (.same (.same .nil))))))))))) hp rfl); (refine (es_rng1 ?_ T.n_range); (refine (ea_cons (P := aInt) (Lb := (fun z : Unit => [])) ?_ ea_nil); (refine (ex_callB call_len_seq b_lenD T.n_len ?_); (refine (ea_cons (P := aD) (Lb := (fun z : Unit => [])) ?_ ea_nil); (exact (ex_var (P := aD) (f := fun _ => a61) 5 (fun _ => rfl))))))); (exact (fun g67 x66 => (by refine (bl_append (P := (aP2 aD aD)) (get := fun (s : ((List (D × (D × Unit))) × Unit)) => s.1) (mk := fun a (s : ((List (D × (D × Unit))) × Unit)) => (s.1 ++ [a], s.2)) (Γ2 := fun _ (s : ((List (D × (D × Unit))) × Unit)) => [aNo, aNo, aAt v57 ((aL (aP2 aD aD)) s.1), aNo, aD a60, aD a61, aNo, aInt x66]) 2 (fun _ => rfl) ?_ eh0 (fun _ => inferInstance) (fun a68 => (bl_nil (g := fun (s : ((List (D × (D × Unit))) × Unit)) => ()) (fun _ => rfl) (fun _ => rfl) (fun _ => (.same (.same (.same (.same (.same (.same (.same (.no .nil))))))))))) (fun _ _ => rfl)); (refine (ex_tup (L := fun z : (D × (D × Unit)) => [aD z.1, aD z.2.1]) ?_ (fun _ => (persL_cons (persL_cons persL_nil))) (fun _ => szl (Nat.le_of_ble_eq_true rfl))); (refine (ea_cons (P := aD) (Lb := (fun z : (D × Unit) => [aD z.1])) ?_ ?_); (refine (ex_ix ix_any o_ixD ?_ ?_); (exact (ex_var (P := aD) (f := fun _ => a60) 4 (fun _ => rfl))); (exact (ex_var (P := aInt) (f := fun _ => x66) 7 (fun _ => rfl)))); (refine (ea_cons (P := aD) (Lb := (fun z : Unit => [])) ?_ ea_nil); (refine (ex_ix ix_any o_ixD ?_ ?_); (exact (ex_var (P := aD) (f := fun _ => a61) 5 (fun _ => rfl))); (exact (ex_var (P := aInt) (f := fun _ => x66) 7 (fun _ => rfl)))))))))))))))))))))))))))); (exact (fun g58 => (by exact (bl_ret (g := fun a => a) ex_bl eh0 io0 (fun _ _ => rfl)))))))))
theorem ok__law_same (T : Txt K mg) : FnOk Pg w K mg base (L2.CX Pg w) 2 (He.ga K "_law_same") (T.F__law_same).choose ["seen", "due"] (spC mg K (fun y : (D × (D × Unit)) => [aD y.1, aD y.2.1]) [] aBl (fun _ => []) fun y => m__law_same y.1 y.2.1 ()) :=
  fn0 (pin := fun y : (D × (D × Unit)) => [aD y.1, aD y.2.1]) (m := fun y => m__law_same y.1 y.2.1) (Γ := fun y (s : Unit) => [aD y.1, aD y.2.1, aNo, aNo, aNo, aNo, aNo, aNo]) (T.F__law_same).choose_spec Sc__law_same (fun _ => rfl) (fun _ => rfl) fun cdv A outer s H E hr tk hp y => bo__law_same T hr tk hp y.1 y.2.1
theorem b__law_same (T : Txt K mg) : Binds K (T.F__law_same).choose ["seen", "due"] [] := FunD.bindsN (T.F__law_same).choose_spec fun _ _ _ _ _ _ us hl => match us, hl with | [_, _], _ => rfl
theorem Txt.kp__law_same (T : Txt K mg) : PySem.W.keepIn K (.ref (He.ga K "_law_same")) = true := (T.F__law_same).choose_spec.kp
def m__law_four_due (p_text : Tx) : M Unit (Bool × (Bool × (Bool × (Bool × Unit)))) := (bdo (fun s => s) ((((rd fun _ => p_text) >>= fun x => ((ret (12 : Int)) >>= fun x => (ret ()) >>= fun y => ret (x, y)) >>= fun y => ret (x, y)) >>= fun y => cpu (m__law_is_run y.1 y.2.1 ())) >>= fun x => ((((rd fun _ => p_text) >>= fun x => ((ret (40 : Int)) >>= fun x => (ret ()) >>= fun y => ret (x, y)) >>= fun y => ret (x, y)) >>= fun y => cpu (m__law_is_run y.1 y.2.1 ())) >>= fun x => ((((rd fun _ => p_text) >>= fun x => (ret ()) >>= fun y => ret (x, y)) >>= fun y => cpu (m__law_is_tail y.1 ())) >>= fun x => ((((rd fun _ => p_text) >>= fun x => (ret ()) >>= fun y => ret (x, y)) >>= fun y => cpu (m__law_is_reading_name y.1 ())) >>= fun x => (ret ()) >>= fun y => ret (x, y)) >>= fun y => ret (x, y)) >>= fun y => ret (x, y)) >>= fun y => ret (x, y)) (fun _ s => s) fun a s => .ok a (s))
abbrev N__law_four_due : List Str := ["text"]
theorem Sc__law_four_due : FnScope N__law_four_due ["text"] (defScope s29) := ⟨rfl, rfl, rfl, by decide +kernel, rfl, by decide +kernel, by decide +kernel⟩
theorem bo__law_four_due (T : Txt K mg) {cdv : Value} {A : Around} {outer : List Env} {s0 : Shared} {H0 : Hp} {E : XK} (hr : Room 2 (Cb Pg w K mg base N__law_four_due "_law_four_due" (defScope s29) (He.ga K "_law_four_due") cdv A outer s0 H0 E).A) (tk : Takes (Cb Pg w K mg base N__law_four_due "_law_four_due" (defScope s29) (He.ga K "_law_four_due") cdv A outer s0 H0 E) (WF E)) (hp : PassesOwn (model Pg w) (Cb Pg w K mg base N__law_four_due "_law_four_due" (defScope s29) (He.ga K "_law_four_due") cdv A outer s0 H0 E).A (Cb Pg w K mg base N__law_four_due "_law_four_due" (defScope s29) (He.ga K "_law_four_due") cdv A outer s0 H0 E).env (Cb Pg w K mg base N__law_four_due "_law_four_due" (defScope s29) (He.ga K "_law_four_due") cdv A outer s0 H0 E).xe) (p_text : Tx) :
    Bl (Cb Pg w K mg base N__law_four_due "_law_four_due" (defScope s29) (He.ga K "_law_four_due") cdv A outer s0 H0 E) (WF E) (fun (s : Unit) => [aStr p_text]) (defBody s29) (m__law_four_due p_text) (fun b _ => .rt ((aP4 aBl aBl aBl aBl) b) [] []) (ehF mg K (fun _ => []) []) :=
  (by refine (bl_ret (g := fun a => a) ?_ eh0 io0 (fun _ _ => rfl)); (refine (ex_tup (L := fun z : (Bool × (Bool × (Bool × (Bool × Unit)))) => [aBl z.1, aBl z.2.1, aBl z.2.2.1, aBl z.2.2.2.1]) ?_ (fun _ => (persL_cons (persL_cons (persL_cons (persL_cons persL_nil))))) (fun _ => szl (Nat.le_of_ble_eq_true rfl))); (refine (ea_cons (P := aBl) (Lb := (fun z : (Bool × (Bool × (Bool × Unit))) => [aBl z.1, aBl z.2.1, aBl z.2.2.1])) ?_ ?_); (refine (ex_call0 (kx := fun y : (Tx × (Int × Unit)) => y) (fm := fun y : (Tx × (Int × Unit)) => m__law_is_run y.1 y.2.1 ()) (ok__law_is_run T) (hr.mono (by decide)) tk T.g__law_is_run T.kp__law_is_run (b__law_is_run T) ?_ (fun _ => rfl)); (refine (ea_cons (P := aStr) (Lb := (fun z : (Int × Unit) => [aInt z.1])) ?_ ?_); (exact (ex_var (P := aStr) (f := fun _ => p_text) 0 (fun _ => rfl))); (exact (ea_cons (P := aInt) (Lb := (fun z : Unit => [])) ex_int ea_nil)))); (refine (ea_cons (P := aBl) (Lb := (fun z : (Bool × (Bool × Unit)) => [aBl z.1, aBl z.2.1])) ?_ ?_); (refine (ex_call0 (kx := fun y : (Tx × (Int × Unit)) => y) (fm := fun y : (Tx × (Int × Unit)) => m__law_is_run y.1 y.2.1 ()) (ok__law_is_run T) (hr.mono (by decide)) tk T.g__law_is_run T.kp__law_is_run (b__law_is_run T) ?_ (fun _ => rfl)); (refine (ea_cons (P := aStr) (Lb := (fun z : (Int × Unit) => [aInt z.1])) ?_ ?_); (exact (ex_var (P := aStr) (f := fun _ => p_text) 0 (fun _ => rfl))); (exact (ea_cons (P := aInt) (Lb := (fun z : Unit => [])) ex_int ea_nil)))); (refine (ea_cons (P := aBl) (Lb := (fun z : (Bool × Unit) => [aBl z.1])) ?_ ?_); (refine (ex_call0 (kx := fun y : (Tx × Unit) => y) (fm := fun y : (Tx × Unit) => m__law_is_tail y.1 ()) (ok__law_is_tail T) (hr.mono (by decide)) tk T.g__law_is_tail T.kp__law_is_tail (b__law_is_tail T) ?_ (fun _ => rfl)); (refine (ea_cons (P := aStr) (Lb := (fun z : Unit => [])) ?_ ea_nil); (exact (ex_var (P := aStr) (f := fun _ => p_text) 0 (fun _ => rfl))))); (refine (ea_cons (P := aBl) (Lb := (fun z : Unit => [])) ?_ ea_nil); (refine (ex_call0 (kx := fun y : (Tx × Unit) => y) (fm := fun y : (Tx × Unit) => m__law_is_reading_name y.1 ()) (ok__law_is_reading_name T) (hr.mono (by decide)) tk T.g__law_is_reading_name T.kp__law_is_reading_name (b__law_is_reading_name T) ?_ (fun _ => rfl)); (refine (ea_cons (P := aStr) (Lb := (fun z : Unit => [])) ?_ ea_nil); (exact (ex_var (P := aStr) (f := fun _ => p_text) 0 (fun _ => rfl)))))))))))
theorem ok__law_four_due (T : Txt K mg) : FnOk Pg w K mg base (L2.CX Pg w) 3 (He.ga K "_law_four_due") (T.F__law_four_due).choose ["text"] (spC mg K (fun y : (Tx × Unit) => [aStr y.1]) [] (aP4 aBl aBl aBl aBl) (fun _ => []) fun y => m__law_four_due y.1 ()) :=
  fn0 (pin := fun y : (Tx × Unit) => [aStr y.1]) (m := fun y => m__law_four_due y.1) (Γ := fun y (s : Unit) => [aStr y.1]) (T.F__law_four_due).choose_spec Sc__law_four_due (fun _ => rfl) (fun _ => rfl) fun cdv A outer s H E hr tk hp y => bo__law_four_due T hr tk hp y.1
theorem b__law_four_due (T : Txt K mg) : Binds K (T.F__law_four_due).choose ["text"] [] := FunD.bindsN (T.F__law_four_due).choose_spec fun _ _ _ _ _ _ us hl => match us, hl with | [_], _ => rfl
theorem Txt.kp__law_four_due (T : Txt K mg) : PySem.W.keepIn K (.ref (He.ga K "_law_four_due")) = true := (T.F__law_four_due).choose_spec.kp
def m__law_four_told (p_text : Tx) : M Unit (Bool × (Bool × (Bool × (Bool × Unit)))) := (bdo (fun s => s) ((((rd fun _ => p_text) >>= fun x => (ret ()) >>= fun y => ret (x, y)) >>= fun y => cpu (m_is_name y.1 ())) >>= fun x => ((((rd fun _ => p_text) >>= fun x => (ret ()) >>= fun y => ret (x, y)) >>= fun y => cpu (m_is_word y.1 ())) >>= fun x => ((((rd fun _ => p_text) >>= fun x => (ret ()) >>= fun y => ret (x, y)) >>= fun y => cpu (m_is_tail y.1 ())) >>= fun x => ((((rd fun _ => p_text) >>= fun x => (ret ()) >>= fun y => ret (x, y)) >>= fun y => cpu (m_is_reading_name y.1 ())) >>= fun x => (ret ()) >>= fun y => ret (x, y)) >>= fun y => ret (x, y)) >>= fun y => ret (x, y)) >>= fun y => ret (x, y)) (fun _ s => s) fun a s => .ok a (s))
abbrev N__law_four_told : List Str := ["text"]
theorem Sc__law_four_told : FnScope N__law_four_told ["text"] (defScope s30) := ⟨rfl, rfl, rfl, by decide +kernel, rfl, by decide +kernel, by decide +kernel⟩
theorem bo__law_four_told (T : Txt K mg) {cdv : Value} {A : Around} {outer : List Env} {s0 : Shared} {H0 : Hp} {E : XK} (hr : Room 5 (Cb Pg w K mg base N__law_four_told "_law_four_told" (defScope s30) (He.ga K "_law_four_told") cdv A outer s0 H0 E).A) (tk : Takes (Cb Pg w K mg base N__law_four_told "_law_four_told" (defScope s30) (He.ga K "_law_four_told") cdv A outer s0 H0 E) (WF E)) (hp : PassesOwn (model Pg w) (Cb Pg w K mg base N__law_four_told "_law_four_told" (defScope s30) (He.ga K "_law_four_told") cdv A outer s0 H0 E).A (Cb Pg w K mg base N__law_four_told "_law_four_told" (defScope s30) (He.ga K "_law_four_told") cdv A outer s0 H0 E).env (Cb Pg w K mg base N__law_four_told "_law_four_told" (defScope s30) (He.ga K "_law_four_told") cdv A outer s0 H0 E).xe) (p_text : Tx) :
    Bl (Cb Pg w K mg base N__law_four_told "_law_four_told" (defScope s30) (He.ga K "_law_four_told") cdv A outer s0 H0 E) (WF E) (fun (s : Unit) => [aStr p_text]) (defBody s30) (m__law_four_told p_text) (fun b _ => .rt ((aP4 aBl aBl aBl aBl) b) [] []) (ehF mg K (fun _ => []) []) :=
  (by refine (bl_ret (g := fun a => a) ?_ eh0 io0 (fun _ _ => rfl)); (refine (ex_tup (L := fun z : (Bool × (Bool × (Bool × (Bool × Unit)))) => [aBl z.1, aBl z.2.1, aBl z.2.2.1, aBl z.2.2.2.1]) ?_ (fun _ => (persL_cons (persL_cons (persL_cons (persL_cons persL_nil))))) (fun _ => szl (Nat.le_of_ble_eq_true rfl))); (refine (ea_cons (P := aBl) (Lb := (fun z : (Bool × (Bool × (Bool × Unit))) => [aBl z.1, aBl z.2.1, aBl z.2.2.1])) ?_ ?_); (refine (ex_call0 (kx := fun y : (Tx × Unit) => y) (fm := fun y : (Tx × Unit) => m_is_name y.1 ()) (ok_is_name T) (hr.mono (by decide)) tk T.g_is_name T.kp_is_name (b_is_name T) ?_ (fun _ => rfl)); (refine (ea_cons (P := aStr) (Lb := (fun z : Unit => [])) ?_ ea_nil); (exact (ex_var (P := aStr) (f := fun _ => p_text) 0 (fun _ => rfl))))); (refine (ea_cons (P := aBl) (Lb := (fun z : (Bool × (Bool × Unit)) => [aBl z.1, aBl z.2.1])) ?_ ?_); (refine (ex_call0 (kx := fun y : (Tx × Unit) => y) (fm := fun y : (Tx × Unit) => m_is_word y.1 ()) (ok_is_word T) (hr.mono (by decide)) tk T.g_is_word T.kp_is_word (b_is_word T) ?_ (fun _ => rfl)); (refine (ea_cons (P := aStr) (Lb := (fun z : Unit => [])) ?_ ea_nil); (exact (ex_var (P := aStr) (f := fun _ => p_text) 0 (fun _ => rfl))))); (refine (ea_cons (P := aBl) (Lb := (fun z : (Bool × Unit) => [aBl z.1])) ?_ ?_); (refine (ex_call0 (kx := fun y : (Tx × Unit) => y) (fm := fun y : (Tx × Unit) => m_is_tail y.1 ()) (ok_is_tail T) (hr.mono (by decide)) tk T.g_is_tail T.kp_is_tail (b_is_tail T) ?_ (fun _ => rfl)); (refine (ea_cons (P := aStr) (Lb := (fun z : Unit => [])) ?_ ea_nil); (exact (ex_var (P := aStr) (f := fun _ => p_text) 0 (fun _ => rfl))))); (refine (ea_cons (P := aBl) (Lb := (fun z : Unit => [])) ?_ ea_nil); (refine (ex_call0 (kx := fun y : (Tx × Unit) => y) (fm := fun y : (Tx × Unit) => m_is_reading_name y.1 ()) (ok_is_reading_name T) (hr.mono (by decide)) tk T.g_is_reading_name T.kp_is_reading_name (b_is_reading_name T) ?_ (fun _ => rfl)); (refine (ea_cons (P := aStr) (Lb := (fun z : Unit => [])) ?_ ea_nil); (exact (ex_var (P := aStr) (f := fun _ => p_text) 0 (fun _ => rfl)))))))))))
theorem ok__law_four_told (T : Txt K mg) : FnOk Pg w K mg base (L2.CX Pg w) 6 (He.ga K "_law_four_told") (T.F__law_four_told).choose ["text"] (spC mg K (fun y : (Tx × Unit) => [aStr y.1]) [] (aP4 aBl aBl aBl aBl) (fun _ => []) fun y => m__law_four_told y.1 ()) :=
  fn0 (pin := fun y : (Tx × Unit) => [aStr y.1]) (m := fun y => m__law_four_told y.1) (Γ := fun y (s : Unit) => [aStr y.1]) (T.F__law_four_told).choose_spec Sc__law_four_told (fun _ => rfl) (fun _ => rfl) fun cdv A outer s H E hr tk hp y => bo__law_four_told T hr tk hp y.1
theorem b__law_four_told (T : Txt K mg) : Binds K (T.F__law_four_told).choose ["text"] [] := FunD.bindsN (T.F__law_four_told).choose_spec fun _ _ _ _ _ _ us hl => match us, hl with | [_], _ => rfl
theorem Txt.kp__law_four_told (T : Txt K mg) : PySem.W.keepIn K (.ref (He.ga K "_law_four_told")) = true := (T.F__law_four_told).choose_spec.kp
def m__law_many_texts  : M Store (List Tx) := (bdo (fun s => s) (((ret (tx "")) >>= fun x => (ret ()) >>= fun y => ret (x, y)) >>= fun x => ret ((fun z : (Tx × Unit) => ([z.1] : List Tx)) x)) (fun a s => (a, s)) fun a69 => (bdo (fun s => s.2) (((ret (1 : Int)) >>= fun x => ((ret (6 : Int)) >>= fun x => ((ret (7 : Int)) >>= fun x => ((ret (12 : Int)) >>= fun x => ((ret (13 : Int)) >>= fun x => ((ret (40 : Int)) >>= fun x => ((ret (41 : Int)) >>= fun x => (ret ()) >>= fun y => ret (x, y)) >>= fun y => ret (x, y)) >>= fun y => ret (x, y)) >>= fun y => ret (x, y)) >>= fun y => ret (x, y)) >>= fun y => ret (x, y)) >>= fun y => ret (x, y)) >>= fun x => ret ((fun z : (Int × (Int × (Int × (Int × (Int × (Int × (Int × Unit))))))) => ([z.1, z.2.1, z.2.2.1, z.2.2.2.1, z.2.2.2.2.1, z.2.2.2.2.2.1, z.2.2.2.2.2.2.1] : List Int)) x)) (fun _ s => s) fun xs => bdo (fun s => s.2) (forN (fun (g72 : Unit) (x71 : Int) => (bdo (fun s => s) ((((ret ()) >>= fun x => ((rd fun _ => x71) >>= fun x => (ret ()) >>= fun y => ret (x, y)) >>= fun y => ret (x, y)) >>= fun y => cio (fun s => s.2) (fun s w => (s.1, w)) fun w => m__law_run y.2.1 w) >>= fun a => ms fun s => if (s.1).length < SZ then .ok a s else .st) (fun a s => (s.1 ++ [a], s.2)) fun a73 => (fun s => .ok () (s)))) xs ()) (fun _ s => s) fun (g72 : Unit) => (bdo (fun s => s.2) (((((((ret ()) >>= fun x => ((ret (10 : Int)) >>= fun x => (ret ()) >>= fun y => ret (x, y)) >>= fun y => ret (x, y)) >>= fun y => cio (fun s => s.2) (fun s w => (s.1, w)) fun w => m__law_take y.2.1 w) >>= fun x => (ret ()) >>= fun y => ret (x, y)) >>= fun y => lf (strI y.1)) >>= fun x => (((ret ()) >>= fun x => ((((ret ()) >>= fun x => ((((ret (0 : Int)) >>= fun x => ((ret (5 : Int)) >>= fun x => ((ret (6 : Int)) >>= fun x => ((ret (11 : Int)) >>= fun x => ((ret (39 : Int)) >>= fun x => (ret ()) >>= fun y => ret (x, y)) >>= fun y => ret (x, y)) >>= fun y => ret (x, y)) >>= fun y => ret (x, y)) >>= fun y => ret (x, y)) >>= fun x => ret ((fun z : (Int × (Int × (Int × (Int × (Int × Unit))))) => ([z.1, z.2.1, z.2.2.1, z.2.2.2.1, z.2.2.2.2.1] : List Int)) x)) >>= fun x => (ret ()) >>= fun y => ret (x, y)) >>= fun y => ret (x, y)) >>= fun y => cio (fun s => s.2) (fun s w => (s.1, w)) fun w => m__law_pick y.2.1 w) >>= fun x => (ret ()) >>= fun y => ret (x, y)) >>= fun y => ret (x, y)) >>= fun y => cio (fun s => s.2) (fun s w => (s.1, w)) fun w => m__law_run y.2.1 w) >>= fun y => lf (catT x y)) >>= fun a => ms fun s => if (s.1).length < SZ then .ok a s else .st) (fun a s => (s.1 ++ [a], s.2)) fun a74 => (bdo (fun s => s.2) (ret (tx " !\"#$&'()*+,-./0123456789:;<=>?@ABCDEFGHIJKLMNOPQRSTUVWXYZ[\\]^_`abcdefghijklmnopqrstuvwxyz{|}~")) (fun _ s => s) fun a75 => (bdo (fun s => s.2) (((ret ()) >>= fun x => ((((ret ()) >>= fun x => ((ret (0 : Int)) >>= fun x => ((ret (11 : Int)) >>= fun x => (ret ()) >>= fun y => ret (x, y)) >>= fun y => ret (x, y)) >>= fun y => ret (x, y)) >>= fun y => cio (fun s => s.2) (fun s w => (s.1, w)) fun w => m__law_edge y.2.1 y.2.2.1 w) >>= fun x => (ret ()) >>= fun y => ret (x, y)) >>= fun y => ret (x, y)) >>= fun y => cio (fun s => s.2) (fun s w => (s.1, w)) fun w => m__law_run y.2.1 w) (fun _ s => s) fun a76 => (bdo (fun s => s.2) (((ret ()) >>= fun x => (((((rd fun _ => a76) >>= fun x => (ret ()) >>= fun y => ret (x, y)) >>= fun y => lf (lenT y.1)) >>= fun x => (ret (1 : Int)) >>= fun y => lf (some (x + y))) >>= fun x => (ret ()) >>= fun y => ret (x, y)) >>= fun y => ret (x, y)) >>= fun y => cio (fun s => s.2) (fun s w => (s.1, w)) fun w => m__law_take y.2.1 w) (fun _ s => s) fun a77 => (bdo (fun s => s.2) (((rd fun _ => a75) >>= fun x => ret () >>= fun y => ret (x, y)) >>= fun y => lf (if y.1.length ≤ SZ then some (y.1.map fun c => [c]) else none)) (fun _ s => s) fun xs => bdo (fun s => s.2) (forN (fun (g79 : Unit) (x78 : Tx) => (bdo (fun s => s) (((((rd fun _ => a76) >>= fun x => (ret none) >>= fun i => ((rd fun _ => a77) >>= fun i => ret (some i)) >>= fun j => lf (cutT x i j)) >>= fun x => (rd fun _ => x78) >>= fun y => lf (catT x y)) >>= fun x => ((rd fun _ => a76) >>= fun x => ((rd fun _ => a77) >>= fun i => ret (some i)) >>= fun i => (ret none) >>= fun j => lf (cutT x i j)) >>= fun y => lf (catT x y)) >>= fun a => ms fun s => if (s.1).length < SZ then .ok a s else .st) (fun a s => (s.1 ++ [a], s.2)) fun a80 => (fun s => .ok () (s)))) xs ()) (fun _ s => s) fun (g79 : Unit) => (bdo (fun s => s.2) (((ret (1 : Int)) >>= fun x => ((ret (2 : Int)) >>= fun x => ((ret (3 : Int)) >>= fun x => ((ret (4 : Int)) >>= fun x => ((ret (5 : Int)) >>= fun x => (ret ()) >>= fun y => ret (x, y)) >>= fun y => ret (x, y)) >>= fun y => ret (x, y)) >>= fun y => ret (x, y)) >>= fun y => ret (x, y)) >>= fun x => ret ((fun z : (Int × (Int × (Int × (Int × (Int × Unit))))) => ([z.1, z.2.1, z.2.2.1, z.2.2.2.1, z.2.2.2.2.1] : List Int)) x)) (fun _ s => s) fun xs => bdo (fun s => s.2) (forN (fun (g82 : ((Option (List Tx)) × Unit)) (x81 : Int) => (bdo (fun s => s) ((((rd fun _ => x81) >>= fun x => (ret ()) >>= fun y => ret (x, y)) >>= fun z => lf (rng1 z.1)) >>= fun xs => mpM (fun x83 => (((ret ()) >>= fun x => ((((ret ()) >>= fun x => ((ret (1 : Int)) >>= fun x => ((ret (12 : Int)) >>= fun x => (ret ()) >>= fun y => ret (x, y)) >>= fun y => ret (x, y)) >>= fun y => ret (x, y)) >>= fun y => cio (fun s => s.2) (fun s w => (s.1, w)) fun w => m__law_edge y.2.1 y.2.2.1 w) >>= fun x => (ret ()) >>= fun y => ret (x, y)) >>= fun y => ret (x, y)) >>= fun y => cio (fun s => s.2) (fun s w => (s.1, w)) fun w => m__law_run y.2.1 w)) xs) (fun a s => (a, s)) fun a84 => (bdo (fun s => s.2) (((ret (tx "~")) >>= fun a => ms fun s => lf (joinT a (s.1)) s) >>= fun a => ms fun s => if (s.2.1).length < SZ then .ok a s else .st) (fun a s => (s.1, (s.2.1 ++ [a], s.2.2))) fun a86 => (fun s => .ok ((some s.1), ()) (s.2))))) xs (none, ())) (fun _ s => s) fun (g82 : ((Option (List Tx)) × Unit)) => (sureR g82.1 fun (y87 : (List Tx)) => (fun s => (bdo (fun s => s.2.2) ((((ret ()) >>= fun x => (ret ()) >>= fun y => ret (x, y)) >>= fun y => cio (fun s => s.2.2) (fun s w => (s.1, (s.2.1, w))) fun w => m__law_bad_name  w) >>= fun a => (((ret ()) >>= fun x => ((ret (5 : Int)) >>= fun x => (ret ()) >>= fun y => ret (x, y)) >>= fun y => ret (x, y)) >>= fun y => cio (fun s => s.2.2) (fun s w => (s.1, (s.2.1, w))) fun w => m__law_take y.2.1 w) >>= fun j => ixM (fun s => s.1) a j) (fun a s => ((s.1).set a.2 a.1, s.2)) fun a89 => (bdo (fun s => s.2.2) (((ret (tx "~")) >>= fun a => ms fun s => lf (joinT a (s.1)) s) >>= fun a => ms fun s => if (s.2.1).length < SZ then .ok a s else .st) (fun a s => (s.1, (s.2.1 ++ [a], s.2.2))) fun a90 => (bdo (fun s => s.2.2) (((ret (tx "~")) >>= fun x => (((ret none) >>= fun a => ((ret (4 : Int)) >>= fun i => ret (some i)) >>= fun b => rd fun s => ((s.1).drop (HT.sIx (s.1).length 0 a)).take (HT.sIx (s.1).length (s.1).length b - HT.sIx (s.1).length 0 a)) >>= fun x => ret () >>= fun y => ret (x, y)) >>= fun y => lf (joinT x y.1)) >>= fun a => ms fun s => if (s.2.1).length < SZ then .ok a s else .st) (fun a s => (s.1, (s.2.1 ++ [a], s.2.2))) fun a91 => (bdo (fun s => s.2.2) (((((ret (4 : Int)) >>= fun x => (ret ()) >>= fun y => ret (x, y)) >>= fun z => lf (rng1 z.1)) >>= fun xs => mpM (fun x92 => (((ret ()) >>= fun x => (ret ()) >>= fun y => ret (x, y)) >>= fun y => cio (fun s => s.2.2) (fun s w => (s.1, (s.2.1, w))) fun w => m__law_near_name  w)) xs) >>= fun ys => ms fun s => lf (catL (s.2.1) ys) s) (fun a s => (a, s)) fun a93 => (bdo (fun s => s.2.2.2) ((((ret ()) >>= fun x => ((ret (8 : Int)) >>= fun x => (ret ()) >>= fun y => ret (x, y)) >>= fun y => ret (x, y)) >>= fun y => cio (fun s => s.2.2.2) (fun s w => (s.1, (s.2.1, (s.2.2.1, w)))) fun w => m__law_take y.2.1 w) >>= fun x => (ret (0 : Int)) >>= fun y => lf (some (decide (x = y)))) (fun _ s => s) fun k => bdo (fun s => s.2.2.2) (if k = true then (bdo (fun s => s) (((ret ()) >>= fun x => ((((ret (tx "a")) >>= fun x => ((ret (tx "a~")) >>= fun x => ((ret (tx "7")) >>= fun x => ((ret (tx "ab ")) >>= fun x => ((ret (tx "a0z")) >>= fun x => ((ret (tx "Az")) >>= fun x => (ret ()) >>= fun y => ret (x, y)) >>= fun y => ret (x, y)) >>= fun y => ret (x, y)) >>= fun y => ret (x, y)) >>= fun y => ret (x, y)) >>= fun y => ret (x, y)) >>= fun x => ret ((fun z : (Tx × (Tx × (Tx × (Tx × (Tx × (Tx × Unit)))))) => ([z.1, z.2.1, z.2.2.1, z.2.2.2.1, z.2.2.2.2.1, z.2.2.2.2.2.1] : List Tx)) x)) >>= fun x => (ret ()) >>= fun y => ret (x, y)) >>= fun y => ret (x, y)) >>= fun y => cio (fun s => s.2.2.2) (fun s w => (s.1, (s.2.1, (s.2.2.1, w)))) fun w => m__law_pick y.2.1 w) (fun _ s => s) fun a96 => (bdo (fun s => s) (((rd fun _ => a96) >>= fun x => (((ret (3900 : Int)) >>= fun x => (((rd fun _ => a96) >>= fun x => (ret ()) >>= fun y => ret (x, y)) >>= fun y => lf (lenT y.1)) >>= fun y => lf (if CDiv x y then some (x / y) else none)) >>= fun x => (((ret ()) >>= fun x => ((ret (33 : Int)) >>= fun x => (ret ()) >>= fun y => ret (x, y)) >>= fun y => ret (x, y)) >>= fun y => cio (fun s => s.2.2.2) (fun s w => (s.1, (s.2.1, (s.2.2.1, w)))) fun w => m__law_take y.2.1 w) >>= fun y => lf (some (x + y))) >>= fun y => lf (repT x y)) >>= fun a => ms fun s => if (s.1).length < SZ then .ok a s else .st) (fun a s => (s.1 ++ [a], s.2)) fun a97 => (fun s => .ok () (s)))) else (fun s => .ok () (s))) (fun _ s => s) fun (g95 : Unit) => (fun s => .ok s.1 (s.2.2.2))))))) (y87, s)))))))))))
abbrev N__law_many_texts : List Str := ["store", "told", "size", "signs", "body", "spot", "sign", "many", "parts", "unit", "k"]
theorem Sc__law_many_texts : FnScope N__law_many_texts ["store"] (defScope s31) := ⟨rfl, rfl, rfl, by decide +kernel, rfl, by decide +kernel, by decide +kernel⟩
theorem bo__law_many_texts (T : Txt K mg) {cdv : Value} {A : Around} {outer : List Env} {s0 : Shared} {H0 : Hp} {E : XK} (hr : Room 5 (Cb Pg w K mg base N__law_many_texts "_law_many_texts" (defScope s31) (He.ga K "_law_many_texts") cdv A outer s0 H0 E).A) (tk : Takes (Cb Pg w K mg base N__law_many_texts "_law_many_texts" (defScope s31) (He.ga K "_law_many_texts") cdv A outer s0 H0 E) (WF E)) (hp : PassesOwn (model Pg w) (Cb Pg w K mg base N__law_many_texts "_law_many_texts" (defScope s31) (He.ga K "_law_many_texts") cdv A outer s0 H0 E).A (Cb Pg w K mg base N__law_many_texts "_law_many_texts" (defScope s31) (He.ga K "_law_many_texts") cdv A outer s0 H0 E).env (Cb Pg w K mg base N__law_many_texts "_law_many_texts" (defScope s31) (He.ga K "_law_many_texts") cdv A outer s0 H0 E).xe) (v0 : V)  :
    Bl (Cb Pg w K mg base N__law_many_texts "_law_many_texts" (defScope s31) (He.ga K "_law_many_texts") cdv A outer s0 H0 E) (WF E) (fun (s : Store) => [aAt v0 (aStore s), aNo, aNo, aNo, aNo, aNo, aNo, aNo, aNo, aNo, aNo]) (defBody s31) (m__law_many_texts ) (fun b u => .rt ((aL aStr) b) [aStore u] [v0]) (ehF mg K (fun w => [aStore w]) [v0]) :=
  (by refine (bl_setP (Γ2 := fun (v70 : V) (a69 : (List Tx)) (s : ((List Tx) × Store)) => [aAt v0 (aStore s.2), aAt v70 ((aL aStr) s.1), aNo, aNo, aNo, aNo, aNo, aNo, aNo, aNo, aNo]) 1 ?_ (io1 (A := fun (w : Store) => aStore (w)) 0 (fun _ => rfl)).eh ?_ (fun _ _ _ => rfl) (Sc__law_many_texts).nd); (refine (ex_map (P := fun z : (Tx × Unit) => aLs [aStr z.1]) (f := (fun z : (Tx × Unit) => ([z.1] : List Tx))) (Q := (aL aStr)) ?_ fun _ => rfl); (exact (ex_lst (L := fun z : (Tx × Unit) => [aStr z.1]) (by exact (ea_cons (P := aStr) (Lb := (fun z : Unit => [])) ex_str ea_nil)) (fun _ => (persL_cons persL_nil)) (fun _ => szl (Nat.le_of_ble_eq_true rfl))))); (exact (fun v70 a69 => (by refine (bl_for (g0 := ()) (L := fun (g72 : Unit) (s : ((List Tx) × Store)) => [aAt v0 (aStore s.2), aAt v70 ((aL aStr) s.1), aNo, aNo, aNo, aNo, aNo, aNo, aNo, aNo, aNo]) (Γb := fun (g72 : Unit) (x71 : Int) (s : ((List Tx) × Store)) => [aAt v0 (aStore s.2), aAt v70 ((aL aStr) s.1), aInt x71, aNo, aNo, aNo, aNo, aNo, aNo, aNo, aNo]) ?_ (io1 (A := fun (w : Store) => aStore (w)) 0 (fun _ => rfl)).eh (tg_name (P := aInt) 2 (Sc__law_many_texts).nd) (fun _ => (.same (.same (.same (.same (.same (.same (.same (.same (.same (.same (.same .nil)))))))))))) (fun _ _ _ => rfl) ehq ?_ ?_ hp rfl); (refine (es_own ?_); (refine (ex_map (P := fun z : (Int × (Int × (Int × (Int × (Int × (Int × (Int × Unit))))))) => aLs [aInt z.1, aInt z.2.1, aInt z.2.2.1, aInt z.2.2.2.1, aInt z.2.2.2.2.1, aInt z.2.2.2.2.2.1, aInt z.2.2.2.2.2.2.1]) (f := (fun z : (Int × (Int × (Int × (Int × (Int × (Int × (Int × Unit))))))) => ([z.1, z.2.1, z.2.2.1, z.2.2.2.1, z.2.2.2.2.1, z.2.2.2.2.2.1, z.2.2.2.2.2.2.1] : List Int))) (Q := (aL aInt)) ?_ fun _ => rfl); (exact (ex_lst (L := fun z : (Int × (Int × (Int × (Int × (Int × (Int × (Int × Unit))))))) => [aInt z.1, aInt z.2.1, aInt z.2.2.1, aInt z.2.2.2.1, aInt z.2.2.2.2.1, aInt z.2.2.2.2.2.1, aInt z.2.2.2.2.2.2.1]) (by refine (ea_cons (P := aInt) (Lb := (fun z : (Int × (Int × (Int × (Int × (Int × (Int × Unit)))))) => [aInt z.1, aInt z.2.1, aInt z.2.2.1, aInt z.2.2.2.1, aInt z.2.2.2.2.1, aInt z.2.2.2.2.2.1])) ex_int ?_); (refine (ea_cons (P := aInt) (Lb := (fun z : (Int × (Int × (Int × (Int × (Int × Unit))))) => [aInt z.1, aInt z.2.1, aInt z.2.2.1, aInt z.2.2.2.1, aInt z.2.2.2.2.1])) ex_int ?_); (refine (ea_cons (P := aInt) (Lb := (fun z : (Int × (Int × (Int × (Int × Unit)))) => [aInt z.1, aInt z.2.1, aInt z.2.2.1, aInt z.2.2.2.1])) ex_int ?_); (refine (ea_cons (P := aInt) (Lb := (fun z : (Int × (Int × (Int × Unit))) => [aInt z.1, aInt z.2.1, aInt z.2.2.1])) ex_int ?_); (refine (ea_cons (P := aInt) (Lb := (fun z : (Int × (Int × Unit)) => [aInt z.1, aInt z.2.1])) ex_int ?_); (refine (ea_cons (P := aInt) (Lb := (fun z : (Int × Unit) => [aInt z.1])) ex_int ?_); (exact (ea_cons (P := aInt) (Lb := (fun z : Unit => [])) ex_int ea_nil)))))))) (fun _ => (persL_cons (persL_cons (persL_cons (persL_cons (persL_cons (persL_cons (persL_cons persL_nil)))))))) (fun _ => szl (Nat.le_of_ble_eq_true rfl)))))); (exact (fun g72 x71 => (by refine (bl_append (P := aStr) (get := fun (s : ((List Tx) × Store)) => s.1) (mk := fun a (s : ((List Tx) × Store)) => (s.1 ++ [a], s.2)) (Γ2 := fun _ (s : ((List Tx) × Store)) => [aAt v0 (aStore s.2), aAt v70 ((aL aStr) s.1), aInt x71, aNo, aNo, aNo, aNo, aNo, aNo, aNo, aNo]) 1 (fun _ => rfl) ?_ (io1 (A := fun (w : ((List Tx) × Store)) => aStore (w.2)) 0 (fun _ => rfl)).eh (fun _ => inferInstance) (fun a73 => (bl_nil (g := fun (s : ((List Tx) × Store)) => ()) (fun _ => rfl) (fun _ => rfl) (fun _ => (.same (.same (.no (.same (.same (.same (.same (.same (.same (.same (.same .nil)))))))))))))) (fun _ _ => rfl)); (refine (ex_call1 (La := (fun z : (Unit × (Int × Unit)) => [(fun _ : Unit => aV v0) z.1, aInt z.2.1])) (kx := (fun (y : (Unit × (Int × Unit))) (w : Store) => (w, (y.2.1, ())))) (fm := fun y : (Store × (Int × Unit)) => m__law_run y.2.1 y.1) (A := aStore) (get := (fun (s : ((List Tx) × Store)) => s.2)) (put := (fun (s : ((List Tx) × Store)) w => (s.1, w))) 0 0 (ok__law_run T) (hr.mono (by decide)) tk T.g__law_run T.kp__law_run (b__law_run T) ?_ (fun _ => rfl) (fun _ _ => rfl) (fun _ => rfl) (fun _ _ => rfl)); (refine (ea_cons (P := (fun _ : Unit => aV v0)) (Lb := (fun z : (Int × Unit) => [aInt z.1])) (ex_ref (A := fun (s : ((List Tx) × Store)) => aStore s.2) 0 (fun _ => rfl)) ?_); (refine (ea_cons (P := aInt) (Lb := (fun z : Unit => [])) ?_ ea_nil); (exact (ex_var (P := aInt) (f := fun _ => x71) 2 (fun _ => rfl))))))))); (exact (fun g72 => (by refine (bl_append (P := aStr) (get := fun (s : ((List Tx) × Store)) => s.1) (mk := fun a (s : ((List Tx) × Store)) => (s.1 ++ [a], s.2)) (Γ2 := fun _ (s : ((List Tx) × Store)) => [aAt v0 (aStore s.2), aAt v70 ((aL aStr) s.1), aNo, aNo, aNo, aNo, aNo, aNo, aNo, aNo, aNo]) 1 (fun _ => rfl) ?_ (io1 (A := fun (w : Store) => aStore (w)) 0 (fun _ => rfl)).eh (fun _ => inferInstance) ?_ (fun _ _ => rfl)); (refine (ex_op op_add_str o_catT ?_ ?_); (refine (ex_callT call_str_int b_strI T.n_str ?_); (refine (ea_cons (P := aInt) (Lb := (fun z : Unit => [])) ?_ ea_nil); (refine (ex_call1 (La := (fun z : (Unit × (Int × Unit)) => [(fun _ : Unit => aV v0) z.1, aInt z.2.1])) (kx := (fun (y : (Unit × (Int × Unit))) (w : Store) => (w, (y.2.1, ())))) (fm := fun y : (Store × (Int × Unit)) => m__law_take y.2.1 y.1) (A := aStore) (get := (fun (s : ((List Tx) × Store)) => s.2)) (put := (fun (s : ((List Tx) × Store)) w => (s.1, w))) 0 0 (ok__law_take T) (hr.mono (by decide)) tk T.g__law_take T.kp__law_take (b__law_take T) ?_ (fun _ => rfl) (fun _ _ => rfl) (fun _ => rfl) (fun _ _ => rfl)); (refine (ea_cons (P := (fun _ : Unit => aV v0)) (Lb := (fun z : (Int × Unit) => [aInt z.1])) (ex_ref (A := fun (s : ((List Tx) × Store)) => aStore s.2) 0 (fun _ => rfl)) ?_); (exact (ea_cons (P := aInt) (Lb := (fun z : Unit => [])) ex_int ea_nil)))))); (refine (ex_call1 (La := (fun z : (Unit × (Int × Unit)) => [(fun _ : Unit => aV v0) z.1, aInt z.2.1])) (kx := (fun (y : (Unit × (Int × Unit))) (w : Store) => (w, (y.2.1, ())))) (fm := fun y : (Store × (Int × Unit)) => m__law_run y.2.1 y.1) (A := aStore) (get := (fun (s : ((List Tx) × Store)) => s.2)) (put := (fun (s : ((List Tx) × Store)) w => (s.1, w))) 0 0 (ok__law_run T) (hr.mono (by decide)) tk T.g__law_run T.kp__law_run (b__law_run T) ?_ (fun _ => rfl) (fun _ _ => rfl) (fun _ => rfl) (fun _ _ => rfl)); (refine (ea_cons (P := (fun _ : Unit => aV v0)) (Lb := (fun z : (Int × Unit) => [aInt z.1])) (ex_ref (A := fun (s : ((List Tx) × Store)) => aStore s.2) 0 (fun _ => rfl)) ?_); (refine (ea_cons (P := aInt) (Lb := (fun z : Unit => [])) ?_ ea_nil); (refine (ex_call1 (La := (fun z : (Unit × ((List Int) × Unit)) => [(fun _ : Unit => aV v0) z.1, (aR aInt) z.2.1])) (kx := (fun (y : (Unit × ((List Int) × Unit))) (w : Store) => (w, (y.2.1, ())))) (fm := fun y : (Store × ((List Int) × Unit)) => m__law_pick y.2.1 y.1) (A := aStore) (get := (fun (s : ((List Tx) × Store)) => s.2)) (put := (fun (s : ((List Tx) × Store)) w => (s.1, w))) 0 0 (ok__law_pick (P := aInt) T) (hr.mono (by decide)) tk T.g__law_pick T.kp__law_pick (b__law_pick T) ?_ (fun _ => rfl) (fun _ _ => rfl) (fun _ => rfl) (fun _ _ => rfl)); (refine (ea_cons (P := (fun _ : Unit => aV v0)) (Lb := (fun z : ((List Int) × Unit) => [(aR aInt) z.1])) (ex_ref (A := fun (s : ((List Tx) × Store)) => aStore s.2) 0 (fun _ => rfl)) ?_); (refine (ea_cons (P := (aR aInt)) (Lb := (fun z : Unit => [])) ?_ ea_nil); (refine (ex_co (P := (aF aInt)) (P' := (aR aInt)) ?_ fun _ => co_fr); (refine (ex_frz (P := (aL aInt)) ?_ fun _ => frz_list); (refine (ex_map (P := fun z : (Int × (Int × (Int × (Int × (Int × Unit))))) => aLs [aInt z.1, aInt z.2.1, aInt z.2.2.1, aInt z.2.2.2.1, aInt z.2.2.2.2.1]) (f := (fun z : (Int × (Int × (Int × (Int × (Int × Unit))))) => ([z.1, z.2.1, z.2.2.1, z.2.2.2.1, z.2.2.2.2.1] : List Int))) (Q := (aL aInt)) ?_ fun _ => rfl); (exact (ex_lst (L := fun z : (Int × (Int × (Int × (Int × (Int × Unit))))) => [aInt z.1, aInt z.2.1, aInt z.2.2.1, aInt z.2.2.2.1, aInt z.2.2.2.2.1]) (by refine (ea_cons (P := aInt) (Lb := (fun z : (Int × (Int × (Int × (Int × Unit)))) => [aInt z.1, aInt z.2.1, aInt z.2.2.1, aInt z.2.2.2.1])) ex_int ?_); (refine (ea_cons (P := aInt) (Lb := (fun z : (Int × (Int × (Int × Unit))) => [aInt z.1, aInt z.2.1, aInt z.2.2.1])) ex_int ?_); (refine (ea_cons (P := aInt) (Lb := (fun z : (Int × (Int × Unit)) => [aInt z.1, aInt z.2.1])) ex_int ?_); (refine (ea_cons (P := aInt) (Lb := (fun z : (Int × Unit) => [aInt z.1])) ex_int ?_); (exact (ea_cons (P := aInt) (Lb := (fun z : Unit => [])) ex_int ea_nil)))))) (fun _ => (persL_cons (persL_cons (persL_cons (persL_cons (persL_cons persL_nil)))))) (fun _ => szl (Nat.le_of_ble_eq_true rfl)))))))))))))); (exact (fun a74 => (by refine (bl_set (Γ2 := fun (a75 : Tx) (s : ((List Tx) × Store)) => [aAt v0 (aStore s.2), aAt v70 ((aL aStr) s.1), aNo, aStr a75, aNo, aNo, aNo, aNo, aNo, aNo, aNo]) 3 ex_str (io1 (A := fun (w : Store) => aStore (w)) 0 (fun _ => rfl)).eh ?_ (fun _ _ => rfl) (Sc__law_many_texts).nd); (exact (fun a75 => (by refine (bl_set (Γ2 := fun (a76 : Tx) (s : ((List Tx) × Store)) => [aAt v0 (aStore s.2), aAt v70 ((aL aStr) s.1), aNo, aStr a75, aStr a76, aNo, aNo, aNo, aNo, aNo, aNo]) 4 ?_ (io1 (A := fun (w : Store) => aStore (w)) 0 (fun _ => rfl)).eh ?_ (fun _ _ => rfl) (Sc__law_many_texts).nd); (refine (ex_call1 (La := (fun z : (Unit × (Int × Unit)) => [(fun _ : Unit => aV v0) z.1, aInt z.2.1])) (kx := (fun (y : (Unit × (Int × Unit))) (w : Store) => (w, (y.2.1, ())))) (fm := fun y : (Store × (Int × Unit)) => m__law_run y.2.1 y.1) (A := aStore) (get := (fun (s : ((List Tx) × Store)) => s.2)) (put := (fun (s : ((List Tx) × Store)) w => (s.1, w))) 0 0 (ok__law_run T) (hr.mono (by decide)) tk T.g__law_run T.kp__law_run (b__law_run T) ?_ (fun _ => rfl) (fun _ _ => rfl) (fun _ => rfl) (fun _ _ => rfl)); (refine (ea_cons (P := (fun _ : Unit => aV v0)) (Lb := (fun z : (Int × Unit) => [aInt z.1])) (ex_ref (A := fun (s : ((List Tx) × Store)) => aStore s.2) 0 (fun _ => rfl)) ?_); (refine (ea_cons (P := aInt) (Lb := (fun z : Unit => [])) ?_ ea_nil); (refine (ex_call1 (La := (fun z : (Unit × (Int × (Int × Unit))) => [(fun _ : Unit => aV v0) z.1, aInt z.2.1, aInt z.2.2.1])) (kx := (fun (y : (Unit × (Int × (Int × Unit)))) (w : Store) => (w, (y.2.1, (y.2.2.1, ()))))) (fm := fun y : (Store × (Int × (Int × Unit))) => m__law_edge y.2.1 y.2.2.1 y.1) (A := aStore) (get := (fun (s : ((List Tx) × Store)) => s.2)) (put := (fun (s : ((List Tx) × Store)) w => (s.1, w))) 0 0 (ok__law_edge T) (hr.mono (by decide)) tk T.g__law_edge T.kp__law_edge (b__law_edge T) ?_ (fun _ => rfl) (fun _ _ => rfl) (fun _ => rfl) (fun _ _ => rfl)); (refine (ea_cons (P := (fun _ : Unit => aV v0)) (Lb := (fun z : (Int × (Int × Unit)) => [aInt z.1, aInt z.2.1])) (ex_ref (A := fun (s : ((List Tx) × Store)) => aStore s.2) 0 (fun _ => rfl)) ?_); (refine (ea_cons (P := aInt) (Lb := (fun z : (Int × Unit) => [aInt z.1])) ex_int ?_); (exact (ea_cons (P := aInt) (Lb := (fun z : Unit => [])) ex_int ea_nil)))))))); (exact (fun a76 => (by refine (bl_set (Γ2 := fun (a77 : Int) (s : ((List Tx) × Store)) => [aAt v0 (aStore s.2), aAt v70 ((aL aStr) s.1), aNo, aStr a75, aStr a76, aInt a77, aNo, aNo, aNo, aNo, aNo]) 5 ?_ (io1 (A := fun (w : Store) => aStore (w)) 0 (fun _ => rfl)).eh ?_ (fun _ _ => rfl) (Sc__law_many_texts).nd); (refine (ex_call1 (La := (fun z : (Unit × (Int × Unit)) => [(fun _ : Unit => aV v0) z.1, aInt z.2.1])) (kx := (fun (y : (Unit × (Int × Unit))) (w : Store) => (w, (y.2.1, ())))) (fm := fun y : (Store × (Int × Unit)) => m__law_take y.2.1 y.1) (A := aStore) (get := (fun (s : ((List Tx) × Store)) => s.2)) (put := (fun (s : ((List Tx) × Store)) w => (s.1, w))) 0 0 (ok__law_take T) (hr.mono (by decide)) tk T.g__law_take T.kp__law_take (b__law_take T) ?_ (fun _ => rfl) (fun _ _ => rfl) (fun _ => rfl) (fun _ _ => rfl)); (refine (ea_cons (P := (fun _ : Unit => aV v0)) (Lb := (fun z : (Int × Unit) => [aInt z.1])) (ex_ref (A := fun (s : ((List Tx) × Store)) => aStore s.2) 0 (fun _ => rfl)) ?_); (refine (ea_cons (P := aInt) (Lb := (fun z : Unit => [])) ?_ ea_nil); (refine (ex_op op_add o_int ?_ ex_int); (refine (ex_callB call_len_str b_lenT T.n_len ?_); (refine (ea_cons (P := aStr) (Lb := (fun z : Unit => [])) ?_ ea_nil); (exact (ex_var (P := aStr) (f := fun _ => a76) 4 (fun _ => rfl))))))))); (exact (fun a77 => (by refine (bl_for (g0 := ()) (L := fun (g79 : Unit) (s : ((List Tx) × Store)) => [aAt v0 (aStore s.2), aAt v70 ((aL aStr) s.1), aNo, aNo, aStr a76, aInt a77, aNo, aNo, aNo, aNo, aNo]) (Γb := fun (g79 : Unit) (x78 : Tx) (s : ((List Tx) × Store)) => [aAt v0 (aStore s.2), aAt v70 ((aL aStr) s.1), aNo, aNo, aStr a76, aInt a77, aStr x78, aNo, aNo, aNo, aNo]) ?_ (io1 (A := fun (w : Store) => aStore (w)) 0 (fun _ => rfl)).eh (tg_name (P := aStr) 6 (Sc__law_many_texts).nd) (fun _ => (.same (.same (.same (.no (.same (.same (.same (.same (.same (.same (.same .nil)))))))))))) (fun _ _ _ => rfl) ehq ?_ ?_ hp rfl); (refine (es_own ?_); (refine (ex_callT (call_listT rfl) b_listT T.n_list ?_); (refine (ea_cons (P := aStr) (Lb := (fun _ : Unit => [])) ?_ ea_nil); (exact (ex_var (P := aStr) (f := fun _ => a75) 3 (fun _ => rfl)))))); (exact (fun g79 x78 => (by refine (bl_append (P := aStr) (get := fun (s : ((List Tx) × Store)) => s.1) (mk := fun a (s : ((List Tx) × Store)) => (s.1 ++ [a], s.2)) (Γ2 := fun _ (s : ((List Tx) × Store)) => [aAt v0 (aStore s.2), aAt v70 ((aL aStr) s.1), aNo, aNo, aStr a76, aInt a77, aStr x78, aNo, aNo, aNo, aNo]) 1 (fun _ => rfl) ?_ (io1 (A := fun (w : ((List Tx) × Store)) => aStore (w.2)) 0 (fun _ => rfl)).eh (fun _ => inferInstance) (fun a80 => (bl_nil (g := fun (s : ((List Tx) × Store)) => ()) (fun _ => rfl) (fun _ => rfl) (fun _ => (.same (.same (.same (.same (.same (.same (.no (.same (.same (.same (.same .nil)))))))))))))) (fun _ _ => rfl)); (refine (ex_op op_add_str o_catT ?_ ?_); (refine (ex_op op_add_str o_catT ?_ ?_); (refine (ex_slice sl_str o_cutT ?_ eo_none ?_); (exact (ex_var (P := aStr) (f := fun _ => a76) 4 (fun _ => rfl))); (refine (eo_some ?_); (exact (ex_var (P := aInt) (f := fun _ => a77) 5 (fun _ => rfl))))); (exact (ex_var (P := aStr) (f := fun _ => x78) 6 (fun _ => rfl)))); (refine (ex_slice sl_str o_cutT ?_ ?_ eo_none); (exact (ex_var (P := aStr) (f := fun _ => a76) 4 (fun _ => rfl))); (refine (eo_some ?_); (exact (ex_var (P := aInt) (f := fun _ => a77) 5 (fun _ => rfl))))))))); (exact (fun g79 => (by refine (bl_for (g0 := (none, ())) (L := fun (g82 : ((Option (List Tx)) × Unit)) (s : ((List Tx) × Store)) => [aAt v0 (aStore s.2), aAt v70 ((aL aStr) s.1), aNo, aNo, aNo, aNo, aNo, aNo, aOp (aL aStr) g82.1, aNo, aNo]) (Γb := fun (g82 : ((Option (List Tx)) × Unit)) (x81 : Int) (s : ((List Tx) × Store)) => [aAt v0 (aStore s.2), aAt v70 ((aL aStr) s.1), aNo, aNo, aNo, aNo, aNo, aInt x81, aOp (aL aStr) g82.1, aNo, aNo]) ?_ (io1 (A := fun (w : Store) => aStore (w)) 0 (fun _ => rfl)).eh (tg_name (P := aInt) 7 (Sc__law_many_texts).nd) (fun _ => (.same (.same (.same (.same (.no (.no (.same (.same (.same (.same (.same .nil)))))))))))) (fun _ _ _ => rfl) ehq ?_ ?_ hp rfl); (refine (es_own ?_); (refine (ex_map (P := fun z : (Int × (Int × (Int × (Int × (Int × Unit))))) => aLs [aInt z.1, aInt z.2.1, aInt z.2.2.1, aInt z.2.2.2.1, aInt z.2.2.2.2.1]) (f := (fun z : (Int × (Int × (Int × (Int × (Int × Unit))))) => ([z.1, z.2.1, z.2.2.1, z.2.2.2.1, z.2.2.2.2.1] : List Int))) (Q := (aL aInt)) ?_ fun _ => rfl); (exact (ex_lst (L := fun z : (Int × (Int × (Int × (Int × (Int × Unit))))) => [aInt z.1, aInt z.2.1, aInt z.2.2.1, aInt z.2.2.2.1, aInt z.2.2.2.2.1]) (by refine (ea_cons (P := aInt) (Lb := (fun z : (Int × (Int × (Int × (Int × Unit)))) => [aInt z.1, aInt z.2.1, aInt z.2.2.1, aInt z.2.2.2.1])) ex_int ?_); (refine (ea_cons (P := aInt) (Lb := (fun z : (Int × (Int × (Int × Unit))) => [aInt z.1, aInt z.2.1, aInt z.2.2.1])) ex_int ?_); (refine (ea_cons (P := aInt) (Lb := (fun z : (Int × (Int × Unit)) => [aInt z.1, aInt z.2.1])) ex_int ?_); (refine (ea_cons (P := aInt) (Lb := (fun z : (Int × Unit) => [aInt z.1])) ex_int ?_); (exact (ea_cons (P := aInt) (Lb := (fun z : Unit => [])) ex_int ea_nil)))))) (fun _ => (persL_cons (persL_cons (persL_cons (persL_cons (persL_cons persL_nil)))))) (fun _ => szl (Nat.le_of_ble_eq_true rfl)))))); (exact (fun g82 x81 => (by refine (bl_setLcP (Γ2 := fun (v85 : V) (a84 : (List Tx)) (s : ((List Tx) × ((List Tx) × Store))) => [aAt v0 (aStore s.2.2), aAt v70 ((aL aStr) s.2.1), aNo, aNo, aNo, aNo, aNo, aInt x81, aAt v85 ((aL aStr) s.1), aNo, aNo]) 8 ?_ (io1 (A := fun (w : ((List Tx) × Store)) => aStore (w.2)) 0 (fun _ => rfl)).eh ?_ (fun _ _ _ => rfl) rfl); (refine (lcj [("k", 10)] (fun (x83 : Int) (s : ((List Tx) × Store)) => [aAt v0 (aStore s.2), aAt v70 ((aL aStr) s.1), aNo, aNo, aNo, aNo, aNo, aInt x81, aOp (aL aStr) g82.1, aNo, aInt x83]) ?_ (fun _ _ _ _ _ => (tg_name (P := aInt) 10 (Sc__law_many_texts).nd)) (fun _ _ => rfl) ?_ (fun _ => inferInstance) (by decide) (un_cons (fun _ => rfl) un_nil) rfl (Sc__law_many_texts).nd (blkOk_by rfl)); (refine (es_rng1 ?_ T.n_range); (refine (ea_cons (P := aInt) (Lb := (fun z : Unit => [])) ?_ ea_nil); (exact (ex_var (P := aInt) (f := fun _ => x81) 7 (fun _ => rfl))))); (exact (fun _ _ _ _ _ x83 => (by refine (ex_call1 (La := (fun z : (Unit × (Int × Unit)) => [(fun _ : Unit => aV v0) z.1, aInt z.2.1])) (kx := (fun (y : (Unit × (Int × Unit))) (w : Store) => (w, (y.2.1, ())))) (fm := fun y : (Store × (Int × Unit)) => m__law_run y.2.1 y.1) (A := aStore) (get := (fun (s : ((List Tx) × Store)) => s.2)) (put := (fun (s : ((List Tx) × Store)) w => (s.1, w))) 0 0 (ok__law_run T) (hr.mono (by decide)) tk0 T.g__law_run T.kp__law_run (b__law_run T) ?_ (fun _ => rfl) (fun _ _ => rfl) (fun _ => rfl) (fun _ _ => rfl)); (refine (ea_cons (P := (fun _ : Unit => aV v0)) (Lb := (fun z : (Int × Unit) => [aInt z.1])) (ex_ref (A := fun (s : ((List Tx) × Store)) => aStore s.2) 0 (fun _ => rfl)) ?_); (refine (ea_cons (P := aInt) (Lb := (fun z : Unit => [])) ?_ ea_nil); (refine (ex_call1 (La := (fun z : (Unit × (Int × (Int × Unit))) => [(fun _ : Unit => aV v0) z.1, aInt z.2.1, aInt z.2.2.1])) (kx := (fun (y : (Unit × (Int × (Int × Unit)))) (w : Store) => (w, (y.2.1, (y.2.2.1, ()))))) (fm := fun y : (Store × (Int × (Int × Unit))) => m__law_edge y.2.1 y.2.2.1 y.1) (A := aStore) (get := (fun (s : ((List Tx) × Store)) => s.2)) (put := (fun (s : ((List Tx) × Store)) w => (s.1, w))) 0 0 (ok__law_edge T) (hr.mono (by decide)) tk0 T.g__law_edge T.kp__law_edge (b__law_edge T) ?_ (fun _ => rfl) (fun _ _ => rfl) (fun _ => rfl) (fun _ _ => rfl)); (refine (ea_cons (P := (fun _ : Unit => aV v0)) (Lb := (fun z : (Int × (Int × Unit)) => [aInt z.1, aInt z.2.1])) (ex_ref (A := fun (s : ((List Tx) × Store)) => aStore s.2) 0 (fun _ => rfl)) ?_); (refine (ea_cons (P := aInt) (Lb := (fun z : (Int × Unit) => [aInt z.1])) ex_int ?_); (exact (ea_cons (P := aInt) (Lb := (fun z : Unit => [])) ex_int ea_nil))))))))))); (exact (fun v85 a84 => (by refine (bl_append (P := aStr) (get := fun (s : ((List Tx) × ((List Tx) × Store))) => s.2.1) (mk := fun a (s : ((List Tx) × ((List Tx) × Store))) => (s.1, (s.2.1 ++ [a], s.2.2))) (Γ2 := fun _ (s : ((List Tx) × ((List Tx) × Store))) => [aAt v0 (aStore s.2.2), aAt v70 ((aL aStr) s.2.1), aNo, aNo, aNo, aNo, aNo, aInt x81, aAt v85 ((aL aStr) s.1), aNo, aNo]) 1 (fun _ => rfl) ?_ (io1 (A := fun (w : ((List Tx) × Store)) => aStore (w.2)) 0 (fun _ => rfl)).eh (fun _ => inferInstance) (fun a86 => (bl_nil (g := fun (s : ((List Tx) × ((List Tx) × Store))) => ((some s.1), ())) (fun _ => rfl) (fun _ => rfl) (fun _ => (.same (.same (.same (.same (.same (.same (.same (.no (.co co_at (.same (.same .nil)))))))))))))) (fun _ _ => rfl)); (exact (ex_joinB (get := fun (s : ((List Tx) × ((List Tx) × Store))) => s.1) 8 (fun _ => rfl) ex_str)))))))); (exact (fun g82 => (bl_sure (Γ' := fun (o98 : Option (List Tx)) (s : ((List Tx) × Store)) => [aAt v0 (aStore s.2), aAt v70 ((aL aStr) s.1), aNo, aNo, aNo, aNo, aNo, aNo, aOp (aL aStr) o98, aNo, aNo]) (fun y87 => (bl_pin (A := (aL aStr) y87) (mk := fun (s : ((List Tx) × Store)) => (y87, s)) (Γ2 := fun (v88 : V) (s : ((List Tx) × ((List Tx) × Store))) => [aAt v0 (aStore s.2.2), aAt v70 ((aL aStr) s.2.1), aNo, aNo, aNo, aNo, aNo, aNo, aAt v88 ((aL aStr) s.1), aNo, aNo]) 8 (fun v88 => (by refine (bl_ixset (P := aStr) (get := fun (s : ((List Tx) × ((List Tx) × Store))) => s.1) (mk := fun a (s : ((List Tx) × ((List Tx) × Store))) => ((s.1).set a.2 a.1, s.2)) (Γ2 := fun _ (s : ((List Tx) × ((List Tx) × Store))) => [aAt v0 (aStore s.2.2), aAt v70 ((aL aStr) s.2.1), aNo, aNo, aNo, aNo, aNo, aNo, aAt v88 ((aL aStr) s.1), aNo, aNo]) 8 (fun _ => rfl) ?_ ?_ (io1 (A := fun (w : Store) => aStore (w)) 0 (fun _ => rfl)).eh (fun _ => inferInstance) ?_ (fun _ _ => rfl)); (refine (ex_call1 (La := (fun z : (Unit × Unit) => [(fun _ : Unit => aV v0) z.1])) (kx := (fun (y : (Unit × Unit)) (w : Store) => (w, ()))) (fm := fun y : (Store × Unit) => m__law_bad_name  y.1) (A := aStore) (get := (fun (s : ((List Tx) × ((List Tx) × Store))) => s.2.2)) (put := (fun (s : ((List Tx) × ((List Tx) × Store))) w => (s.1, (s.2.1, w)))) 0 0 (ok__law_bad_name T) (hr.mono (by decide)) tk T.g__law_bad_name T.kp__law_bad_name (b__law_bad_name T) ?_ (fun _ => rfl) (fun _ _ => rfl) (fun _ => rfl) (fun _ _ => rfl)); (exact (ea_cons (P := (fun _ : Unit => aV v0)) (Lb := (fun z : Unit => [])) (ex_ref (A := fun (s : ((List Tx) × ((List Tx) × Store))) => aStore s.2.2) 0 (fun _ => rfl)) ea_nil))); (refine (ex_call1 (La := (fun z : (Unit × (Int × Unit)) => [(fun _ : Unit => aV v0) z.1, aInt z.2.1])) (kx := (fun (y : (Unit × (Int × Unit))) (w : Store) => (w, (y.2.1, ())))) (fm := fun y : (Store × (Int × Unit)) => m__law_take y.2.1 y.1) (A := aStore) (get := (fun (s : ((List Tx) × ((List Tx) × Store))) => s.2.2)) (put := (fun (s : ((List Tx) × ((List Tx) × Store))) w => (s.1, (s.2.1, w)))) 0 0 (ok__law_take T) (hr.mono (by decide)) tk T.g__law_take T.kp__law_take (b__law_take T) ?_ (fun _ => rfl) (fun _ _ => rfl) (fun _ => rfl) (fun _ _ => rfl)); (refine (ea_cons (P := (fun _ : Unit => aV v0)) (Lb := (fun z : (Int × Unit) => [aInt z.1])) (ex_ref (A := fun (s : ((List Tx) × ((List Tx) × Store))) => aStore s.2.2) 0 (fun _ => rfl)) ?_); (exact (ea_cons (P := aInt) (Lb := (fun z : Unit => [])) ex_int ea_nil)))); (exact (fun a89 => (by refine (bl_append (P := aStr) (get := fun (s : ((List Tx) × ((List Tx) × Store))) => s.2.1) (mk := fun a (s : ((List Tx) × ((List Tx) × Store))) => (s.1, (s.2.1 ++ [a], s.2.2))) (Γ2 := fun _ (s : ((List Tx) × ((List Tx) × Store))) => [aAt v0 (aStore s.2.2), aAt v70 ((aL aStr) s.2.1), aNo, aNo, aNo, aNo, aNo, aNo, aAt v88 ((aL aStr) s.1), aNo, aNo]) 1 (fun _ => rfl) ?_ (io1 (A := fun (w : Store) => aStore (w)) 0 (fun _ => rfl)).eh (fun _ => inferInstance) ?_ (fun _ _ => rfl)); (exact (ex_joinB (get := fun (s : ((List Tx) × ((List Tx) × Store))) => s.1) 8 (fun _ => rfl) ex_str)); (exact (fun a90 => (by refine (bl_append (P := aStr) (get := fun (s : ((List Tx) × ((List Tx) × Store))) => s.2.1) (mk := fun a (s : ((List Tx) × ((List Tx) × Store))) => (s.1, (s.2.1 ++ [a], s.2.2))) (Γ2 := fun _ (s : ((List Tx) × ((List Tx) × Store))) => [aAt v0 (aStore s.2.2), aAt v70 ((aL aStr) s.2.1), aNo, aNo, aNo, aNo, aNo, aNo, aAt v88 ((aL aStr) s.1), aNo, aNo]) 1 (fun _ => rfl) ?_ (io1 (A := fun (w : Store) => aStore (w)) 0 (fun _ => rfl)).eh (fun _ => inferInstance) ?_ (fun _ _ => rfl)); (refine (ex_bm PySem.F.plainAttrs_str PySem.F.slot_str_join PySem.F.type_str_join mt_join (m_join (Pa := (aL aStr)) (fun _ => inferInstance)) (fun _ => ty_str) ex_str ?_); (refine (ea_cons (P := (aL aStr)) (Lb := (fun _ : Unit => [])) ?_ ea_nil); (refine (ex_sliceB (get := fun (s : ((List Tx) × ((List Tx) × Store))) => s.1) 8 (fun _ => rfl) eo_none ?_); (exact (eo_some ex_int))))); (exact (fun a91 => (by refine (bl_setP (Γ2 := fun (v94 : V) (a93 : (List Tx)) (s : ((List Tx) × ((List Tx) × ((List Tx) × Store)))) => [aAt v0 (aStore s.2.2.2), aAt v94 ((aL aStr) s.1), aNo, aNo, aNo, aNo, aNo, aNo, aAt v88 ((aL aStr) s.2.1), aNo, aNo]) 1 ?_ (io1 (A := fun (w : Store) => aStore (w)) 0 (fun _ => rfl)).eh ?_ (fun _ _ _ => rfl) (Sc__law_many_texts).nd); (refine (ex_catB (get := fun (s : ((List Tx) × ((List Tx) × Store))) => s.2.1) 1 (fun _ => rfl) ?_); (refine (ex_lc ?_); (refine (lcj [("k", 10)] (fun (x92 : Int) (s : ((List Tx) × ((List Tx) × Store))) => [aAt v0 (aStore s.2.2), aAt v70 ((aL aStr) s.2.1), aNo, aNo, aNo, aNo, aNo, aNo, aAt v88 ((aL aStr) s.1), aNo, aInt x92]) ?_ (fun _ _ _ _ _ => (tg_name (P := aInt) 10 (Sc__law_many_texts).nd)) (fun _ _ => rfl) ?_ (fun _ => inferInstance) (by decide) (un_cons (fun _ => rfl) un_nil) rfl (Sc__law_many_texts).nd (blkOk_by rfl)); (refine (es_rng1 ?_ T.n_range); (exact (ea_cons (P := aInt) (Lb := (fun z : Unit => [])) ex_int ea_nil))); (exact (fun _ _ _ _ _ x92 => (by refine (ex_call1 (La := (fun z : (Unit × Unit) => [(fun _ : Unit => aV v0) z.1])) (kx := (fun (y : (Unit × Unit)) (w : Store) => (w, ()))) (fm := fun y : (Store × Unit) => m__law_near_name  y.1) (A := aStore) (get := (fun (s : ((List Tx) × ((List Tx) × Store))) => s.2.2)) (put := (fun (s : ((List Tx) × ((List Tx) × Store))) w => (s.1, (s.2.1, w)))) 0 0 (ok__law_near_name T) (hr.mono (by decide)) tk0 T.g__law_near_name T.kp__law_near_name (b__law_near_name T) ?_ (fun _ => rfl) (fun _ _ => rfl) (fun _ => rfl) (fun _ _ => rfl)); (exact (ea_cons (P := (fun _ : Unit => aV v0)) (Lb := (fun z : Unit => [])) (ex_ref (A := fun (s : ((List Tx) × ((List Tx) × Store))) => aStore s.2.2) 0 (fun _ => rfl)) ea_nil)))))))); (exact (fun v94 a93 => (by refine (bl_ifJ (L := fun (g95 : Unit) (s : ((List Tx) × ((List Tx) × ((List Tx) × Store)))) => [aAt v0 (aStore s.2.2.2), aAt v94 ((aL aStr) s.1), aNo, aNo, aNo, aNo, aNo, aNo, aNo, aNo, aNo]) ?_ (io1 (A := fun (w : Store) => aStore (w)) 0 (fun _ => rfl)).eh ?_ (bl_nil (g := fun (s : ((List Tx) × ((List Tx) × ((List Tx) × Store)))) => ()) (fun _ => rfl) (fun _ => rfl) (fun _ => (.same (.same (.same (.same (.same (.same (.same (.same (.no (.same (.same .nil))))))))))))) ?_); (refine (et_cmp op_eq o_eqI ?_ ex_int); (refine (ex_call1 (La := (fun z : (Unit × (Int × Unit)) => [(fun _ : Unit => aV v0) z.1, aInt z.2.1])) (kx := (fun (y : (Unit × (Int × Unit))) (w : Store) => (w, (y.2.1, ())))) (fm := fun y : (Store × (Int × Unit)) => m__law_take y.2.1 y.1) (A := aStore) (get := (fun (s : ((List Tx) × ((List Tx) × ((List Tx) × Store)))) => s.2.2.2)) (put := (fun (s : ((List Tx) × ((List Tx) × ((List Tx) × Store)))) w => (s.1, (s.2.1, (s.2.2.1, w))))) 0 0 (ok__law_take T) (hr.mono (by decide)) tk T.g__law_take T.kp__law_take (b__law_take T) ?_ (fun _ => rfl) (fun _ _ => rfl) (fun _ => rfl) (fun _ _ => rfl)); (refine (ea_cons (P := (fun _ : Unit => aV v0)) (Lb := (fun z : (Int × Unit) => [aInt z.1])) (ex_ref (A := fun (s : ((List Tx) × ((List Tx) × ((List Tx) × Store)))) => aStore s.2.2.2) 0 (fun _ => rfl)) ?_); (exact (ea_cons (P := aInt) (Lb := (fun z : Unit => [])) ex_int ea_nil))))); (refine (bl_set (Γ2 := fun (a96 : Tx) (s : ((List Tx) × ((List Tx) × ((List Tx) × Store)))) => [aAt v0 (aStore s.2.2.2), aAt v94 ((aL aStr) s.1), aNo, aNo, aNo, aNo, aNo, aNo, aAt v88 ((aL aStr) s.2.1), aStr a96, aNo]) 9 ?_ (io1 (A := fun (w : ((List Tx) × ((List Tx) × ((List Tx) × Store)))) => aStore (w.2.2.2)) 0 (fun _ => rfl)).eh ?_ (fun _ _ => rfl) (Sc__law_many_texts).nd); (refine (ex_call1 (La := (fun z : (Unit × ((List Tx) × Unit)) => [(fun _ : Unit => aV v0) z.1, (aR aStr) z.2.1])) (kx := (fun (y : (Unit × ((List Tx) × Unit))) (w : Store) => (w, (y.2.1, ())))) (fm := fun y : (Store × ((List Tx) × Unit)) => m__law_pick y.2.1 y.1) (A := aStore) (get := (fun (s : ((List Tx) × ((List Tx) × ((List Tx) × Store)))) => s.2.2.2)) (put := (fun (s : ((List Tx) × ((List Tx) × ((List Tx) × Store)))) w => (s.1, (s.2.1, (s.2.2.1, w))))) 0 0 (ok__law_pick (P := aStr) T) (hr.mono (by decide)) tk T.g__law_pick T.kp__law_pick (b__law_pick T) ?_ (fun _ => rfl) (fun _ _ => rfl) (fun _ => rfl) (fun _ _ => rfl)); (refine (ea_cons (P := (fun _ : Unit => aV v0)) (Lb := (fun z : ((List Tx) × Unit) => [(aR aStr) z.1])) (ex_ref (A := fun (s : ((List Tx) × ((List Tx) × ((List Tx) × Store)))) => aStore s.2.2.2) 0 (fun _ => rfl)) ?_); (refine (ea_cons (P := (aR aStr)) (Lb := (fun z : Unit => [])) ?_ ea_nil); (refine (ex_co (P := (aF aStr)) (P' := (aR aStr)) ?_ fun _ => co_fr); (refine (ex_frz (P := (aL aStr)) ?_ fun _ => frz_list); (refine (ex_map (P := fun z : (Tx × (Tx × (Tx × (Tx × (Tx × (Tx × Unit)))))) => aLs [aStr z.1, aStr z.2.1, aStr z.2.2.1, aStr z.2.2.2.1, aStr z.2.2.2.2.1, aStr z.2.2.2.2.2.1]) (f := (fun z : (Tx × (Tx × (Tx × (Tx × (Tx × (Tx × Unit)))))) => ([z.1, z.2.1, z.2.2.1, z.2.2.2.1, z.2.2.2.2.1, z.2.2.2.2.2.1] : List Tx))) (Q := (aL aStr)) ?_ fun _ => rfl); (exact (ex_lst (L := fun z : (Tx × (Tx × (Tx × (Tx × (Tx × (Tx × Unit)))))) => [aStr z.1, aStr z.2.1, aStr z.2.2.1, aStr z.2.2.2.1, aStr z.2.2.2.2.1, aStr z.2.2.2.2.2.1]) (by refine (ea_cons (P := aStr) (Lb := (fun z : (Tx × (Tx × (Tx × (Tx × (Tx × Unit))))) => [aStr z.1, aStr z.2.1, aStr z.2.2.1, aStr z.2.2.2.1, aStr z.2.2.2.2.1])) ex_str ?_); (refine (ea_cons (P := aStr) (Lb := (fun z : (Tx × (Tx × (Tx × (Tx × Unit)))) => [aStr z.1, aStr z.2.1, aStr z.2.2.1, aStr z.2.2.2.1])) ex_str ?_); (refine (ea_cons (P := aStr) (Lb := (fun z : (Tx × (Tx × (Tx × Unit))) => [aStr z.1, aStr z.2.1, aStr z.2.2.1])) ex_str ?_); (refine (ea_cons (P := aStr) (Lb := (fun z : (Tx × (Tx × Unit)) => [aStr z.1, aStr z.2.1])) ex_str ?_); (refine (ea_cons (P := aStr) (Lb := (fun z : (Tx × Unit) => [aStr z.1])) ex_str ?_); (exact (ea_cons (P := aStr) (Lb := (fun z : Unit => [])) ex_str ea_nil))))))) (fun _ => (persL_cons (persL_cons (persL_cons (persL_cons (persL_cons (persL_cons persL_nil))))))) (fun _ => szl (Nat.le_of_ble_eq_true rfl)))))))))); (exact (fun a96 => (by refine (bl_append (P := aStr) (get := fun (s : ((List Tx) × ((List Tx) × ((List Tx) × Store)))) => s.1) (mk := fun a (s : ((List Tx) × ((List Tx) × ((List Tx) × Store)))) => (s.1 ++ [a], s.2)) (Γ2 := fun _ (s : ((List Tx) × ((List Tx) × ((List Tx) × Store)))) => [aAt v0 (aStore s.2.2.2), aAt v94 ((aL aStr) s.1), aNo, aNo, aNo, aNo, aNo, aNo, aAt v88 ((aL aStr) s.2.1), aStr a96, aNo]) 1 (fun _ => rfl) ?_ (io1 (A := fun (w : ((List Tx) × ((List Tx) × ((List Tx) × Store)))) => aStore (w.2.2.2)) 0 (fun _ => rfl)).eh (fun _ => inferInstance) (fun a97 => (bl_nil (g := fun (s : ((List Tx) × ((List Tx) × ((List Tx) × Store)))) => ()) (fun _ => rfl) (fun _ => rfl) (fun _ => (.same (.same (.same (.same (.same (.same (.same (.same (.no (.no (.same .nil)))))))))))))) (fun _ _ => rfl)); (refine (ex_op G.op_repT o_repT ?_ ?_); (exact (ex_var (P := aStr) (f := fun _ => a96) 9 (fun _ => rfl))); (refine (ex_op op_add o_int ?_ ?_); (refine (ex_op op_fdiv o_intC ex_int ?_); (refine (ex_callB call_len_str b_lenT T.n_len ?_); (refine (ea_cons (P := aStr) (Lb := (fun z : Unit => [])) ?_ ea_nil); (exact (ex_var (P := aStr) (f := fun _ => a96) 9 (fun _ => rfl)))))); (refine (ex_call1 (La := (fun z : (Unit × (Int × Unit)) => [(fun _ : Unit => aV v0) z.1, aInt z.2.1])) (kx := (fun (y : (Unit × (Int × Unit))) (w : Store) => (w, (y.2.1, ())))) (fm := fun y : (Store × (Int × Unit)) => m__law_take y.2.1 y.1) (A := aStore) (get := (fun (s : ((List Tx) × ((List Tx) × ((List Tx) × Store)))) => s.2.2.2)) (put := (fun (s : ((List Tx) × ((List Tx) × ((List Tx) × Store)))) w => (s.1, (s.2.1, (s.2.2.1, w))))) 0 0 (ok__law_take T) (hr.mono (by decide)) tk T.g__law_take T.kp__law_take (b__law_take T) ?_ (fun _ => rfl) (fun _ _ => rfl) (fun _ => rfl) (fun _ _ => rfl)); (refine (ea_cons (P := (fun _ : Unit => aV v0)) (Lb := (fun z : (Int × Unit) => [aInt z.1])) (ex_ref (A := fun (s : ((List Tx) × ((List Tx) × ((List Tx) × Store)))) => aStore s.2.2.2) 0 (fun _ => rfl)) ?_); (exact (ea_cons (P := aInt) (Lb := (fun z : Unit => [])) ex_int ea_nil)))))))))); (exact (fun g95 => (by exact (bl_retM (g := fun (s : ((List Tx) × ((List Tx) × ((List Tx) × Store)))) => s.1) (A := fun (s : ((List Tx) × ((List Tx) × ((List Tx) × Store)))) => (aL aStr) s.1) 1 (fun _ => rfl) (io1 (A := fun (w : Store) => aStore (w)) 0 (fun _ => rfl)) (fun _ => rfl))))))))))))))))))) (fun _ => rfl) (fun _ _ => rfl))) g82.1)))))))))))))))))))))))))
theorem ok__law_many_texts (T : Txt K mg) : FnOk Pg w K mg base (L2.CX Pg w) 6 (He.ga K "_law_many_texts") (T.F__law_many_texts).choose ["store"] (spC mg K (fun y : (Store × Unit) => [aStore y.1]) [0] (aL aStr) (fun w => [aStore w]) fun y => m__law_many_texts  y.1) :=
  fn1 0 (pin := fun y : (Store × Unit) => [aStore y.1]) (A := aStore) (get := fun y => y.1) (m := fun y => m__law_many_texts ) (Γ := fun v0 y (s : Store) => [aAt v0 (aStore s), aNo, aNo, aNo, aNo, aNo, aNo, aNo, aNo, aNo, aNo]) (T.F__law_many_texts).choose_spec Sc__law_many_texts (fun _ => rfl) (fun _ => rfl) (fun _ _ => rfl) fun cdv A outer s H E hr tk hp v0 y => bo__law_many_texts T hr tk hp v0 
theorem b__law_many_texts (T : Txt K mg) : Binds K (T.F__law_many_texts).choose ["store"] [] := FunD.bindsN (T.F__law_many_texts).choose_spec fun _ _ _ _ _ _ us hl => match us, hl with | [_], _ => rfl
theorem Txt.kp__law_many_texts (T : Txt K mg) : PySem.W.keepIn K (.ref (He.ga K "_law_many_texts")) = true := (T.F__law_many_texts).choose_spec.kp
def m__law_row_of_names (p_found : (List Tx)) : M Store (List Tx) := (bdo (fun s => s) (((ret ()) >>= fun x => ((((ret (0 : Int)) >>= fun x => ((ret (1 : Int)) >>= fun x => ((ret (2 : Int)) >>= fun x => ((ret (3 : Int)) >>= fun x => ((ret (5 : Int)) >>= fun x => ((ret (24 : Int)) >>= fun x => (ret ()) >>= fun y => ret (x, y)) >>= fun y => ret (x, y)) >>= fun y => ret (x, y)) >>= fun y => ret (x, y)) >>= fun y => ret (x, y)) >>= fun y => ret (x, y)) >>= fun x => ret ((fun z : (Int × (Int × (Int × (Int × (Int × (Int × Unit)))))) => ([z.1, z.2.1, z.2.2.1, z.2.2.2.1, z.2.2.2.2.1, z.2.2.2.2.2.1] : List Int)) x)) >>= fun x => (ret ()) >>= fun y => ret (x, y)) >>= fun y => ret (x, y)) >>= fun y => cio (fun s => s) (fun s w => w) fun w => m__law_pick y.2.1 w) (fun _ s => s) fun a99 => (bdo (fun s => s) ((((rd fun _ => a99) >>= fun x => (ret ()) >>= fun y => ret (x, y)) >>= fun z => lf (rng1 z.1)) >>= fun xs => mpM (fun x100 => (((ret ()) >>= fun x => ((((ret ()) >>= fun x => ((ret (1 : Int)) >>= fun x => ((ret (12 : Int)) >>= fun x => (ret ()) >>= fun y => ret (x, y)) >>= fun y => ret (x, y)) >>= fun y => ret (x, y)) >>= fun y => cio (fun s => s) (fun s w => w) fun w => m__law_edge y.2.1 y.2.2.1 w) >>= fun x => (ret ()) >>= fun y => ret (x, y)) >>= fun y => ret (x, y)) >>= fun y => cio (fun s => s) (fun s w => w) fun w => m__law_run y.2.1 w)) xs) (fun a s => (a, s)) fun a101 => (bdo (fun s => s.2) ((((ret ()) >>= fun x => ((ret (16 : Int)) >>= fun x => (ret ()) >>= fun y => ret (x, y)) >>= fun y => ret (x, y)) >>= fun y => cio (fun s => s.2) (fun s w => (s.1, w)) fun w => m__law_take y.2.1 w) >>= fun x => (ret (0 : Int)) >>= fun y => lf (some (decide (x = y)))) (fun _ s => s) fun k => bdo (fun s => s.2) (if k = true then (bdo (fun s => s) (((ret (490 : Int)) >>= fun x => (((ret (1 : Int)) >>= fun x => ((rd fun _ => a99) >>= fun x => (ret ()) >>= fun y => ret (x, y)) >>= fun y => ret (x, y)) >>= fun y => lf (some (if y.2.1 > y.1 then y.2.1 else y.1))) >>= fun y => lf (if CDiv x y then some (x / y) else none)) >>= fun n => ms fun s => lf (repL (s.1) n) s) (fun a s => (a, s)) fun a104 => (fun s => .ok (s.1, ()) (s.2))) else (fun s => .ok (s.1, ()) (s))) (fun _ s => s) fun (g103 : ((List Tx) × Unit)) => (fun s => (bdo (fun s => s.2.2) (((((ret ()) >>= fun x => ((((ret (0 : Int)) >>= fun x => ((ret (1 : Int)) >>= fun x => ((ret (1 : Int)) >>= fun x => ((ret (2 : Int)) >>= fun x => (ret ()) >>= fun y => ret (x, y)) >>= fun y => ret (x, y)) >>= fun y => ret (x, y)) >>= fun y => ret (x, y)) >>= fun x => ret ((fun z : (Int × (Int × (Int × (Int × Unit)))) => ([z.1, z.2.1, z.2.2.1, z.2.2.2.1] : List Int)) x)) >>= fun x => (ret ()) >>= fun y => ret (x, y)) >>= fun y => ret (x, y)) >>= fun y => cio (fun s => s.2.2) (fun s w => (s.1, (s.2.1, w))) fun w => m__law_pick y.2.1 w) >>= fun x => (ret ()) >>= fun y => ret (x, y)) >>= fun z => lf (rng1 z.1)) (fun _ s => s) fun xs => bdo (fun s => s.2.2) (forN (fun (g108 : Unit) (x107 : Int) => (bdo (fun s => s) (((((ret ()) >>= fun x => ((ret (0 : Int)) >>= fun x => ((rd fun s => ((s.1).length : Int)) >>= fun x => (ret ()) >>= fun y => ret (x, y)) >>= fun y => ret (x, y)) >>= fun y => ret (x, y)) >>= fun y => cio (fun s => s.2.2) (fun s w => (s.1, (s.2.1, w))) fun w => m__law_edge y.2.1 y.2.2.1 w) >>= fun x => ((((ret ()) >>= fun x => ((rd fun _ => p_found) >>= fun x => (ret ()) >>= fun y => ret (x, y)) >>= fun y => ret (x, y)) >>= fun y => cio (fun s => s.2.2) (fun s w => (s.1, (s.2.1, w))) fun w => m__law_pick y.2.1 w) >>= fun x => (ret ()) >>= fun y => ret (x, y)) >>= fun y => ret (x, y)) >>= fun a => ms fun s => if (s.1).length < SZ ∧ 0 ≤ a.1 ∧ a.1 < 2 ^ 63 then .ok a s else .st) (fun a s => ((s.1).take a.1.toNat ++ [a.2.1] ++ (s.1).drop a.1.toNat, s.2)) fun a109 => (fun s => .ok () (s)))) xs ()) (fun _ s => s) fun (g108 : Unit) => (bdo (fun s => s.2.2) (rd fun s => s.1) (fun _ s => s) fun a s => .ok a (s.2.2))) (g103.1, s)))))
abbrev N__law_row_of_names : List Str := ["store", "found", "many", "names", "k"]
theorem Sc__law_row_of_names : FnScope N__law_row_of_names ["store", "found"] (defScope s32) := ⟨rfl, rfl, rfl, by decide +kernel, rfl, by decide +kernel, by decide +kernel⟩
theorem bo__law_row_of_names (T : Txt K mg) {cdv : Value} {A : Around} {outer : List Env} {s0 : Shared} {H0 : Hp} {E : XK} (hr : Room 3 (Cb Pg w K mg base N__law_row_of_names "_law_row_of_names" (defScope s32) (He.ga K "_law_row_of_names") cdv A outer s0 H0 E).A) (tk : Takes (Cb Pg w K mg base N__law_row_of_names "_law_row_of_names" (defScope s32) (He.ga K "_law_row_of_names") cdv A outer s0 H0 E) (WF E)) (hp : PassesOwn (model Pg w) (Cb Pg w K mg base N__law_row_of_names "_law_row_of_names" (defScope s32) (He.ga K "_law_row_of_names") cdv A outer s0 H0 E).A (Cb Pg w K mg base N__law_row_of_names "_law_row_of_names" (defScope s32) (He.ga K "_law_row_of_names") cdv A outer s0 H0 E).env (Cb Pg w K mg base N__law_row_of_names "_law_row_of_names" (defScope s32) (He.ga K "_law_row_of_names") cdv A outer s0 H0 E).xe) (v0 : V) (p_found : (List Tx)) :
    Bl (Cb Pg w K mg base N__law_row_of_names "_law_row_of_names" (defScope s32) (He.ga K "_law_row_of_names") cdv A outer s0 H0 E) (WF E) (fun (s : Store) => [aAt v0 (aStore s), (aF aStr) p_found, aNo, aNo, aNo]) (defBody s32) (m__law_row_of_names p_found) (fun b u => .rt ((aT aStr) b) [aStore u] [v0]) (ehF mg K (fun w => [aStore w]) [v0]) :=
  (by refine (bl_set (Γ2 := fun (a99 : Int) (s : Store) => [aAt v0 (aStore s), (aF aStr) p_found, aInt a99, aNo, aNo]) 2 ?_ (io1 (A := fun (w : Store) => aStore (w)) 0 (fun _ => rfl)).eh ?_ (fun _ _ => rfl) (Sc__law_row_of_names).nd); (refine (ex_call1 (La := (fun z : (Unit × ((List Int) × Unit)) => [(fun _ : Unit => aV v0) z.1, (aR aInt) z.2.1])) (kx := (fun (y : (Unit × ((List Int) × Unit))) (w : Store) => (w, (y.2.1, ())))) (fm := fun y : (Store × ((List Int) × Unit)) => m__law_pick y.2.1 y.1) (A := aStore) (get := (fun (s : Store) => s)) (put := (fun (s : Store) w => w)) 0 0 (ok__law_pick (P := aInt) T) (hr.mono (by decide)) tk T.g__law_pick T.kp__law_pick (b__law_pick T) ?_ (fun _ => rfl) (fun _ _ => rfl) (fun _ => rfl) (fun _ _ => rfl)); (refine (ea_cons (P := (fun _ : Unit => aV v0)) (Lb := (fun z : ((List Int) × Unit) => [(aR aInt) z.1])) (ex_ref (A := fun (s : Store) => aStore s) 0 (fun _ => rfl)) ?_); (refine (ea_cons (P := (aR aInt)) (Lb := (fun z : Unit => [])) ?_ ea_nil); (refine (ex_co (P := (aF aInt)) (P' := (aR aInt)) ?_ fun _ => co_fr); (refine (ex_frz (P := (aL aInt)) ?_ fun _ => frz_list); (refine (ex_map (P := fun z : (Int × (Int × (Int × (Int × (Int × (Int × Unit)))))) => aLs [aInt z.1, aInt z.2.1, aInt z.2.2.1, aInt z.2.2.2.1, aInt z.2.2.2.2.1, aInt z.2.2.2.2.2.1]) (f := (fun z : (Int × (Int × (Int × (Int × (Int × (Int × Unit)))))) => ([z.1, z.2.1, z.2.2.1, z.2.2.2.1, z.2.2.2.2.1, z.2.2.2.2.2.1] : List Int))) (Q := (aL aInt)) ?_ fun _ => rfl); (exact (ex_lst (L := fun z : (Int × (Int × (Int × (Int × (Int × (Int × Unit)))))) => [aInt z.1, aInt z.2.1, aInt z.2.2.1, aInt z.2.2.2.1, aInt z.2.2.2.2.1, aInt z.2.2.2.2.2.1]) (by refine (ea_cons (P := aInt) (Lb := (fun z : (Int × (Int × (Int × (Int × (Int × Unit))))) => [aInt z.1, aInt z.2.1, aInt z.2.2.1, aInt z.2.2.2.1, aInt z.2.2.2.2.1])) ex_int ?_); (refine (ea_cons (P := aInt) (Lb := (fun z : (Int × (Int × (Int × (Int × Unit)))) => [aInt z.1, aInt z.2.1, aInt z.2.2.1, aInt z.2.2.2.1])) ex_int ?_); (refine (ea_cons (P := aInt) (Lb := (fun z : (Int × (Int × (Int × Unit))) => [aInt z.1, aInt z.2.1, aInt z.2.2.1])) ex_int ?_); (refine (ea_cons (P := aInt) (Lb := (fun z : (Int × (Int × Unit)) => [aInt z.1, aInt z.2.1])) ex_int ?_); (refine (ea_cons (P := aInt) (Lb := (fun z : (Int × Unit) => [aInt z.1])) ex_int ?_); (exact (ea_cons (P := aInt) (Lb := (fun z : Unit => [])) ex_int ea_nil))))))) (fun _ => (persL_cons (persL_cons (persL_cons (persL_cons (persL_cons (persL_cons persL_nil))))))) (fun _ => szl (Nat.le_of_ble_eq_true rfl)))))))))); (exact (fun a99 => (by refine (bl_setLcP (Γ2 := fun (v102 : V) (a101 : (List Tx)) (s : ((List Tx) × Store)) => [aAt v0 (aStore s.2), (aF aStr) p_found, aInt a99, aAt v102 ((aL aStr) s.1), aNo]) 3 ?_ (io1 (A := fun (w : Store) => aStore (w)) 0 (fun _ => rfl)).eh ?_ (fun _ _ _ => rfl) rfl); (refine (lcj [("k", 4)] (fun (x100 : Int) (s : Store) => [aAt v0 (aStore s), (aF aStr) p_found, aInt a99, aNo, aInt x100]) ?_ (fun _ _ _ _ _ => (tg_name (P := aInt) 4 (Sc__law_row_of_names).nd)) (fun _ _ => rfl) ?_ (fun _ => inferInstance) (by decide) (un_cons (fun _ => rfl) un_nil) rfl (Sc__law_row_of_names).nd (blkOk_by rfl)); (refine (es_rng1 ?_ T.n_range); (refine (ea_cons (P := aInt) (Lb := (fun z : Unit => [])) ?_ ea_nil); (exact (ex_var (P := aInt) (f := fun _ => a99) 2 (fun _ => rfl))))); (exact (fun _ _ _ _ _ x100 => (by refine (ex_call1 (La := (fun z : (Unit × (Int × Unit)) => [(fun _ : Unit => aV v0) z.1, aInt z.2.1])) (kx := (fun (y : (Unit × (Int × Unit))) (w : Store) => (w, (y.2.1, ())))) (fm := fun y : (Store × (Int × Unit)) => m__law_run y.2.1 y.1) (A := aStore) (get := (fun (s : Store) => s)) (put := (fun (s : Store) w => w)) 0 0 (ok__law_run T) (hr.mono (by decide)) tk0 T.g__law_run T.kp__law_run (b__law_run T) ?_ (fun _ => rfl) (fun _ _ => rfl) (fun _ => rfl) (fun _ _ => rfl)); (refine (ea_cons (P := (fun _ : Unit => aV v0)) (Lb := (fun z : (Int × Unit) => [aInt z.1])) (ex_ref (A := fun (s : Store) => aStore s) 0 (fun _ => rfl)) ?_); (refine (ea_cons (P := aInt) (Lb := (fun z : Unit => [])) ?_ ea_nil); (refine (ex_call1 (La := (fun z : (Unit × (Int × (Int × Unit))) => [(fun _ : Unit => aV v0) z.1, aInt z.2.1, aInt z.2.2.1])) (kx := (fun (y : (Unit × (Int × (Int × Unit)))) (w : Store) => (w, (y.2.1, (y.2.2.1, ()))))) (fm := fun y : (Store × (Int × (Int × Unit))) => m__law_edge y.2.1 y.2.2.1 y.1) (A := aStore) (get := (fun (s : Store) => s)) (put := (fun (s : Store) w => w)) 0 0 (ok__law_edge T) (hr.mono (by decide)) tk0 T.g__law_edge T.kp__law_edge (b__law_edge T) ?_ (fun _ => rfl) (fun _ _ => rfl) (fun _ => rfl) (fun _ _ => rfl)); (refine (ea_cons (P := (fun _ : Unit => aV v0)) (Lb := (fun z : (Int × (Int × Unit)) => [aInt z.1, aInt z.2.1])) (ex_ref (A := fun (s : Store) => aStore s) 0 (fun _ => rfl)) ?_); (refine (ea_cons (P := aInt) (Lb := (fun z : (Int × Unit) => [aInt z.1])) ex_int ?_); (exact (ea_cons (P := aInt) (Lb := (fun z : Unit => [])) ex_int ea_nil))))))))))); (exact (fun v102 a101 => (by refine (bl_ifJ (L := fun (g103 : ((List Tx) × Unit)) (s : ((List Tx) × Store)) => [aAt v0 (aStore s.2), (aF aStr) p_found, aNo, (aL aStr) g103.1, aNo]) ?_ (io1 (A := fun (w : Store) => aStore (w)) 0 (fun _ => rfl)).eh ?_ (bl_nil (g := fun (s : ((List Tx) × Store)) => (s.1, ())) (fun _ => rfl) (fun _ => rfl) (fun _ => (.same (.same (.no (.co co_at (.same .nil))))))) ?_); (refine (et_cmp op_eq o_eqI ?_ ex_int); (refine (ex_call1 (La := (fun z : (Unit × (Int × Unit)) => [(fun _ : Unit => aV v0) z.1, aInt z.2.1])) (kx := (fun (y : (Unit × (Int × Unit))) (w : Store) => (w, (y.2.1, ())))) (fm := fun y : (Store × (Int × Unit)) => m__law_take y.2.1 y.1) (A := aStore) (get := (fun (s : ((List Tx) × Store)) => s.2)) (put := (fun (s : ((List Tx) × Store)) w => (s.1, w))) 0 0 (ok__law_take T) (hr.mono (by decide)) tk T.g__law_take T.kp__law_take (b__law_take T) ?_ (fun _ => rfl) (fun _ _ => rfl) (fun _ => rfl) (fun _ _ => rfl)); (refine (ea_cons (P := (fun _ : Unit => aV v0)) (Lb := (fun z : (Int × Unit) => [aInt z.1])) (ex_ref (A := fun (s : ((List Tx) × Store)) => aStore s.2) 0 (fun _ => rfl)) ?_); (exact (ea_cons (P := aInt) (Lb := (fun z : Unit => [])) ex_int ea_nil))))); (refine (bl_setP (Γ2 := fun (v105 : V) (a104 : (List Tx)) (s : ((List Tx) × ((List Tx) × Store))) => [aAt v0 (aStore s.2.2), (aF aStr) p_found, aInt a99, aAt v105 ((aL aStr) s.1), aNo]) 3 ?_ (io1 (A := fun (w : ((List Tx) × Store)) => aStore (w.2)) 0 (fun _ => rfl)).eh (fun v105 a104 => (bl_nil (g := fun (s : ((List Tx) × ((List Tx) × Store))) => (s.1, ())) (fun _ => rfl) (fun _ => rfl) (fun _ => (.same (.same (.no (.co co_at (.same .nil)))))))) (fun _ _ _ => rfl) (Sc__law_row_of_names).nd); (refine (ex_repB (get := fun (s : ((List Tx) × Store)) => s.1) 3 (fun _ => rfl) ?_); (refine (ex_op op_fdiv o_intC ex_int ?_); (refine (ex_callB (call_max2 rfl) b_max T.n_max ?_); (refine (ea_cons (P := aInt) (Lb := (fun z : (Int × Unit) => [aInt z.1])) ex_int ?_); (refine (ea_cons (P := aInt) (Lb := (fun z : Unit => [])) ?_ ea_nil); (exact (ex_var (P := aInt) (f := fun _ => a99) 2 (fun _ => rfl))))))))); (exact (fun g103 => (bl_pin (A := (aL aStr) g103.1) (mk := fun (s : ((List Tx) × Store)) => (g103.1, s)) (Γ2 := fun (v106 : V) (s : ((List Tx) × ((List Tx) × Store))) => [aAt v0 (aStore s.2.2), (aF aStr) p_found, aNo, aAt v106 ((aL aStr) s.1), aNo]) 3 (fun v106 => (by refine (bl_for (g0 := ()) (L := fun (g108 : Unit) (s : ((List Tx) × ((List Tx) × Store))) => [aAt v0 (aStore s.2.2), (aF aStr) p_found, aNo, aAt v106 ((aL aStr) s.1), aNo]) (Γb := fun (g108 : Unit) (x107 : Int) (s : ((List Tx) × ((List Tx) × Store))) => [aAt v0 (aStore s.2.2), (aF aStr) p_found, aNo, aAt v106 ((aL aStr) s.1), aInt x107]) ?_ (io1 (A := fun (w : Store) => aStore (w)) 0 (fun _ => rfl)).eh (tg_name (P := aInt) 4 (Sc__law_row_of_names).nd) (fun _ => (.same (.same (.same (.same (.same .nil)))))) (fun _ _ _ => rfl) ehq ?_ ?_ hp rfl); (refine (es_rng1 ?_ T.n_range); (refine (ea_cons (P := aInt) (Lb := (fun z : Unit => [])) ?_ ea_nil); (refine (ex_call1 (La := (fun z : (Unit × ((List Int) × Unit)) => [(fun _ : Unit => aV v0) z.1, (aR aInt) z.2.1])) (kx := (fun (y : (Unit × ((List Int) × Unit))) (w : Store) => (w, (y.2.1, ())))) (fm := fun y : (Store × ((List Int) × Unit)) => m__law_pick y.2.1 y.1) (A := aStore) (get := (fun (s : ((List Tx) × ((List Tx) × Store))) => s.2.2)) (put := (fun (s : ((List Tx) × ((List Tx) × Store))) w => (s.1, (s.2.1, w)))) 0 0 (ok__law_pick (P := aInt) T) (hr.mono (by decide)) tk T.g__law_pick T.kp__law_pick (b__law_pick T) ?_ (fun _ => rfl) (fun _ _ => rfl) (fun _ => rfl) (fun _ _ => rfl)); (refine (ea_cons (P := (fun _ : Unit => aV v0)) (Lb := (fun z : ((List Int) × Unit) => [(aR aInt) z.1])) (ex_ref (A := fun (s : ((List Tx) × ((List Tx) × Store))) => aStore s.2.2) 0 (fun _ => rfl)) ?_); (refine (ea_cons (P := (aR aInt)) (Lb := (fun z : Unit => [])) ?_ ea_nil); (refine (ex_co (P := (aF aInt)) (P' := (aR aInt)) ?_ fun _ => co_fr); (refine (ex_frz (P := (aL aInt)) ?_ fun _ => frz_list); (refine (ex_map (P := fun z : (Int × (Int × (Int × (Int × Unit)))) => aLs [aInt z.1, aInt z.2.1, aInt z.2.2.1, aInt z.2.2.2.1]) (f := (fun z : (Int × (Int × (Int × (Int × Unit)))) => ([z.1, z.2.1, z.2.2.1, z.2.2.2.1] : List Int))) (Q := (aL aInt)) ?_ fun _ => rfl); (exact (ex_lst (L := fun z : (Int × (Int × (Int × (Int × Unit)))) => [aInt z.1, aInt z.2.1, aInt z.2.2.1, aInt z.2.2.2.1]) (by refine (ea_cons (P := aInt) (Lb := (fun z : (Int × (Int × (Int × Unit))) => [aInt z.1, aInt z.2.1, aInt z.2.2.1])) ex_int ?_); (refine (ea_cons (P := aInt) (Lb := (fun z : (Int × (Int × Unit)) => [aInt z.1, aInt z.2.1])) ex_int ?_); (refine (ea_cons (P := aInt) (Lb := (fun z : (Int × Unit) => [aInt z.1])) ex_int ?_); (exact (ea_cons (P := aInt) (Lb := (fun z : Unit => [])) ex_int ea_nil))))) (fun _ => (persL_cons (persL_cons (persL_cons (persL_cons persL_nil))))) (fun _ => szl (Nat.le_of_ble_eq_true rfl)))))))))))); (exact (fun g108 x107 => (by refine (bl_insert (P := aStr) (get := fun (s : ((List Tx) × ((List Tx) × Store))) => s.1) (mk := fun a (s : ((List Tx) × ((List Tx) × Store))) => ((s.1).take a.1.toNat ++ [a.2.1] ++ (s.1).drop a.1.toNat, s.2)) (Γ2 := fun _ (s : ((List Tx) × ((List Tx) × Store))) => [aAt v0 (aStore s.2.2), (aF aStr) p_found, aNo, aAt v106 ((aL aStr) s.1), aInt x107]) 3 (fun _ => rfl) ?_ (io1 (A := fun (w : ((List Tx) × ((List Tx) × Store))) => aStore (w.2.2)) 0 (fun _ => rfl)).eh (fun _ => inferInstance) (fun a109 => (bl_nil (g := fun (s : ((List Tx) × ((List Tx) × Store))) => ()) (fun _ => rfl) (fun _ => rfl) (fun _ => (.same (.same (.same (.same (.no .nil)))))))) (fun _ _ => rfl)); (refine (ea_cons (P := aInt) (Lb := (fun z : (Tx × Unit) => [aStr z.1])) ?_ ?_); (refine (ex_call1 (La := (fun z : (Unit × (Int × (Int × Unit))) => [(fun _ : Unit => aV v0) z.1, aInt z.2.1, aInt z.2.2.1])) (kx := (fun (y : (Unit × (Int × (Int × Unit)))) (w : Store) => (w, (y.2.1, (y.2.2.1, ()))))) (fm := fun y : (Store × (Int × (Int × Unit))) => m__law_edge y.2.1 y.2.2.1 y.1) (A := aStore) (get := (fun (s : ((List Tx) × ((List Tx) × Store))) => s.2.2)) (put := (fun (s : ((List Tx) × ((List Tx) × Store))) w => (s.1, (s.2.1, w)))) 0 0 (ok__law_edge T) (hr.mono (by decide)) tk T.g__law_edge T.kp__law_edge (b__law_edge T) ?_ (fun _ => rfl) (fun _ _ => rfl) (fun _ => rfl) (fun _ _ => rfl)); (refine (ea_cons (P := (fun _ : Unit => aV v0)) (Lb := (fun z : (Int × (Int × Unit)) => [aInt z.1, aInt z.2.1])) (ex_ref (A := fun (s : ((List Tx) × ((List Tx) × Store))) => aStore s.2.2) 0 (fun _ => rfl)) ?_); (refine (ea_cons (P := aInt) (Lb := (fun z : (Int × Unit) => [aInt z.1])) ex_int ?_); (refine (ea_cons (P := aInt) (Lb := (fun z : Unit => [])) ?_ ea_nil); (exact (ex_lenB (P := aStr) (get := fun (s : ((List Tx) × ((List Tx) × Store))) => s.1) 3 (fun _ => rfl) T.n_len)))))); (refine (ea_cons (P := aStr) (Lb := (fun z : Unit => [])) ?_ ea_nil); (refine (ex_call1 (La := (fun z : (Unit × ((List Tx) × Unit)) => [(fun _ : Unit => aV v0) z.1, (aR aStr) z.2.1])) (kx := (fun (y : (Unit × ((List Tx) × Unit))) (w : Store) => (w, (y.2.1, ())))) (fm := fun y : (Store × ((List Tx) × Unit)) => m__law_pick y.2.1 y.1) (A := aStore) (get := (fun (s : ((List Tx) × ((List Tx) × Store))) => s.2.2)) (put := (fun (s : ((List Tx) × ((List Tx) × Store))) w => (s.1, (s.2.1, w)))) 0 0 (ok__law_pick (P := aStr) T) (hr.mono (by decide)) tk T.g__law_pick T.kp__law_pick (b__law_pick T) ?_ (fun _ => rfl) (fun _ _ => rfl) (fun _ => rfl) (fun _ _ => rfl)); (refine (ea_cons (P := (fun _ : Unit => aV v0)) (Lb := (fun z : ((List Tx) × Unit) => [(aR aStr) z.1])) (ex_ref (A := fun (s : ((List Tx) × ((List Tx) × Store))) => aStore s.2.2) 0 (fun _ => rfl)) ?_); (refine (ea_cons (P := (aR aStr)) (Lb := (fun z : Unit => [])) ?_ ea_nil); (refine (ex_co (P := (aF aStr)) (P' := (aR aStr)) ?_ fun _ => co_fr); (exact (ex_var (P := (aF aStr)) (f := fun _ => p_found) 1 (fun _ => rfl)))))))))))); (exact (fun g108 => (by refine (bl_ret (g := fun a => a) ?_ (io1 (A := fun (w : Store) => aStore (w)) 0 (fun _ => rfl)).eh (io1 (A := fun (w : Store) => aStore (w)) 0 (fun _ => rfl)) (fun _ _ => rfl)); (exact (ex_tupleB (P := aStr) (get := fun (s : ((List Tx) × ((List Tx) × Store))) => s.1) 3 (fun _ => rfl) T.n_tuple))))))) (fun _ => rfl) (fun _ _ => rfl)))))))))))
theorem ok__law_row_of_names (T : Txt K mg) : FnOk Pg w K mg base (L2.CX Pg w) 4 (He.ga K "_law_row_of_names") (T.F__law_row_of_names).choose ["store", "found"] (spC mg K (fun y : (Store × ((List Tx) × Unit)) => [aStore y.1, (aF aStr) y.2.1]) [0] (aT aStr) (fun w => [aStore w]) fun y => m__law_row_of_names y.2.1 y.1) :=
  fn1 0 (pin := fun y : (Store × ((List Tx) × Unit)) => [aStore y.1, (aF aStr) y.2.1]) (A := aStore) (get := fun y => y.1) (m := fun y => m__law_row_of_names y.2.1) (Γ := fun v0 y (s : Store) => [aAt v0 (aStore s), (aF aStr) y.2.1, aNo, aNo, aNo]) (T.F__law_row_of_names).choose_spec Sc__law_row_of_names (fun _ => rfl) (fun _ => rfl) (fun _ _ => rfl) fun cdv A outer s H E hr tk hp v0 y => bo__law_row_of_names T hr tk hp v0 y.2.1
theorem b__law_row_of_names (T : Txt K mg) : Binds K (T.F__law_row_of_names).choose ["store", "found"] [] := FunD.bindsN (T.F__law_row_of_names).choose_spec fun _ _ _ _ _ _ us hl => match us, hl with | [_, _], _ => rfl
theorem Txt.kp__law_row_of_names (T : Txt K mg) : PySem.W.keepIn K (.ref (He.ga K "_law_row_of_names")) = true := (T.F__law_row_of_names).choose_spec.kp
def m__law_first_due (p_row : (List Tx)) : M Unit (Option Tx) := (bdo (fun s => s) (((rd fun _ => p_row) >>= fun x => ret () >>= fun y => ret (x, y)) >>= fun y => lf (some y.1)) (fun _ s => s) fun xs => bdo (fun s => s) (forL (fun (g111 : Unit) (x110 : Tx) => (bdo (fun s => s) ((((rd fun _ => x110) >>= fun x => ((ret (12 : Int)) >>= fun x => (ret ()) >>= fun y => ret (x, y)) >>= fun y => ret (x, y)) >>= fun y => cpu (m__law_is_run y.1 y.2.1 ())) >>= fun c => ret (!c)) (fun _ s => s) fun k => if k = true then mpo (fun y => (Lp.go y)) (bdo (fun s => s) ((rd fun _ => x110) >>= fun x => ret (some x)) (fun _ s => s) fun a s => .ok a (s)) else (fun s => .ok (Lp.nx ()) (s)))) xs ()) (fun _ s => s) (wyk (fun s => s) (fun y => y) fun (g111 : Unit) => (bdo (fun s => s) ((ret ()) >>= fun _ => ret none) (fun _ s => s) fun a s => .ok a (s))))
abbrev N__law_first_due : List Str := ["row", "text"]
theorem Sc__law_first_due : FnScope N__law_first_due ["row"] (defScope s33) := ⟨rfl, rfl, rfl, by decide +kernel, rfl, by decide +kernel, by decide +kernel⟩
theorem bo__law_first_due (T : Txt K mg) {cdv : Value} {A : Around} {outer : List Env} {s0 : Shared} {H0 : Hp} {E : XK} (hr : Room 1 (Cb Pg w K mg base N__law_first_due "_law_first_due" (defScope s33) (He.ga K "_law_first_due") cdv A outer s0 H0 E).A) (tk : Takes (Cb Pg w K mg base N__law_first_due "_law_first_due" (defScope s33) (He.ga K "_law_first_due") cdv A outer s0 H0 E) (WF E)) (hp : PassesOwn (model Pg w) (Cb Pg w K mg base N__law_first_due "_law_first_due" (defScope s33) (He.ga K "_law_first_due") cdv A outer s0 H0 E).A (Cb Pg w K mg base N__law_first_due "_law_first_due" (defScope s33) (He.ga K "_law_first_due") cdv A outer s0 H0 E).env (Cb Pg w K mg base N__law_first_due "_law_first_due" (defScope s33) (He.ga K "_law_first_due") cdv A outer s0 H0 E).xe) (p_row : (List Tx)) :
    Bl (Cb Pg w K mg base N__law_first_due "_law_first_due" (defScope s33) (He.ga K "_law_first_due") cdv A outer s0 H0 E) (WF E) (fun (s : Unit) => [(aT aStr) p_row, aNo]) (defBody s33) (m__law_first_due p_row) (fun b _ => .rt ((aOpt aStr) b) [] []) (ehF mg K (fun _ => []) []) :=
  (by refine (bl_forL (g0 := ()) (ι := (fun y => y)) (L := fun (g111 : Unit) (s : Unit) => [aNo, aNo]) (Γb := fun (g111 : Unit) (x110 : Tx) (s : Unit) => [aNo, aStr x110]) ?_ eh0 (tg_name (P := aStr) 1 (Sc__law_first_due).nd) (fun _ => (.no (.same .nil))) (fun _ _ _ => rfl) ehq ?_ ?_ ort hp rfl); (refine (es_own ?_); (refine (ex_callT call_list_of (b_list (P := aStr) (Pa := (aT aStr)) (fun _ => inferInstance)) T.n_list ?_); (refine (ea_cons (P := (aT aStr)) (Lb := (fun _ : Unit => [])) ?_ ea_nil); (exact (ex_var (P := (aT aStr)) (f := fun _ => p_row) 0 (fun _ => rfl)))))); (exact (fun g111 x110 => (by refine (bl_ifTm (ι := (fun y => (Lp.go y))) ?_ eh0 ?_ (bl_nil (g := fun (s : Unit) => (Lp.nx ())) (fun _ => rfl) (fun _ => rfl) (fun _ => (.same (.no .nil)))) nonx); (refine (et_not ?_); (refine (et_val ?_); (refine (ex_call0 (kx := fun y : (Tx × (Int × Unit)) => y) (fm := fun y : (Tx × (Int × Unit)) => m__law_is_run y.1 y.2.1 ()) (ok__law_is_run T) (hr.mono (by decide)) tk T.g__law_is_run T.kp__law_is_run (b__law_is_run T) ?_ (fun _ => rfl)); (refine (ea_cons (P := aStr) (Lb := (fun z : (Int × Unit) => [aInt z.1])) ?_ ?_); (exact (ex_var (P := aStr) (f := fun _ => x110) 1 (fun _ => rfl))); (exact (ea_cons (P := aInt) (Lb := (fun z : Unit => [])) ex_int ea_nil)))))); (refine (bl_ret (g := fun a => a) ?_ eh0 io0 (fun _ _ => rfl)); (refine (ex_map (P := aStr) (f := fun x => some x) (Q := (aOpt aStr)) ?_ fun _ => rfl); (exact (ex_var (P := aStr) (f := fun _ => x110) 1 (fun _ => rfl)))))))); (exact (fun g111 => (by refine (bl_ret (g := fun a => a) ?_ eh0 io0 (fun _ _ => rfl)); (exact (ex_map (P := aNon) (f := fun _ => none) (Q := (aOpt aStr)) ex_non fun _ => rfl))))))
theorem ok__law_first_due (T : Txt K mg) : FnOk Pg w K mg base (L2.CX Pg w) 2 (He.ga K "_law_first_due") (T.F__law_first_due).choose ["row"] (spC mg K (fun y : ((List Tx) × Unit) => [(aT aStr) y.1]) [] (aOpt aStr) (fun _ => []) fun y => m__law_first_due y.1 ()) :=
  fn0 (pin := fun y : ((List Tx) × Unit) => [(aT aStr) y.1]) (m := fun y => m__law_first_due y.1) (Γ := fun y (s : Unit) => [(aT aStr) y.1, aNo]) (T.F__law_first_due).choose_spec Sc__law_first_due (fun _ => rfl) (fun _ => rfl) fun cdv A outer s H E hr tk hp y => bo__law_first_due T hr tk hp y.1
theorem b__law_first_due (T : Txt K mg) : Binds K (T.F__law_first_due).choose ["row"] [] := FunD.bindsN (T.F__law_first_due).choose_spec fun _ _ _ _ _ _ us hl => match us, hl with | [_], _ => rfl
theorem Txt.kp__law_first_due (T : Txt K mg) : PySem.W.keepIn K (.ref (He.ga K "_law_first_due")) = true := (T.F__law_first_due).choose_spec.kp
def m_law (p_script : (List Int)) : M Unit Bool := (bdo (fun s => s) (((rd fun _ => p_script) >>= fun x => (ret ()) >>= fun y => ret (x, y)) >>= fun y => cpu (m__law_store y.1 ())) (fun a s => (a, s)) fun a112 => (bdo (fun s => s.2) (((ret ()) >>= fun x => (ret ()) >>= fun y => ret (x, y)) >>= fun y => cio (fun s => s.1) (fun s w => (w, s.2)) fun w => m__law_many_texts  w) (fun _ s => s) fun a114 => (bdo (fun s => s.2) (rd fun _ => a114) (fun _ s => s) fun xs => bdo (fun s => s.2) (forL (fun (g116 : Unit) (x115 : Tx) => (bdo (fun s => s) (((((((rd fun _ => x115) >>= fun x => (ret ()) >>= fun y => ret (x, y)) >>= fun y => cpu (m__law_four_told y.1 ())) >>= fun x => ret ((fun z : (Bool × (Bool × (Bool × (Bool × Unit)))) => (D.tup [(D.bl z.1), (D.bl z.2.1), (D.bl z.2.2.1), (D.bl z.2.2.2.1)])) x)) >>= fun x => (((((rd fun _ => x115) >>= fun x => (ret ()) >>= fun y => ret (x, y)) >>= fun y => cpu (m__law_four_due y.1 ())) >>= fun x => ret ((fun z : (Bool × (Bool × (Bool × (Bool × Unit)))) => (D.tup [(D.bl z.1), (D.bl z.2.1), (D.bl z.2.2.1), (D.bl z.2.2.2.1)])) x)) >>= fun x => (ret ()) >>= fun y => ret (x, y)) >>= fun y => ret (x, y)) >>= fun y => cpu (m__law_same y.1 y.2.1 ())) >>= fun c => ret (!c)) (fun _ s => s) fun k => if k = true then mpo (fun y => (Lp.go y)) (bdo (fun s => s) (ret false) (fun _ s => s) fun a s => .ok a (s)) else (fun s => .ok (Lp.nx ()) (s)))) xs ()) (fun _ s => s) (wyk (fun s => s.2) (fun y => y) fun (g116 : Unit) => (bdo (fun s => s.2) (((((ret ()) >>= fun _ => ret ([] : List Tx)) >>= fun x => (ret ()) >>= fun y => ret (x, y)) >>= fun x => ret ((fun z : ((List Tx) × Unit) => ([z.1] : List (List Tx))) x)) >>= fun x => ((((ret (5 : Int)) >>= fun x => (ret ()) >>= fun y => ret (x, y)) >>= fun z => lf (rng1 z.1)) >>= fun xs => mpM (fun x117 => (((ret ()) >>= fun x => ((rd fun _ => a114) >>= fun x => (ret ()) >>= fun y => ret (x, y)) >>= fun y => ret (x, y)) >>= fun y => cio (fun s => s.1) (fun s w => (w, s.2)) fun w => m__law_row_of_names y.2.1 w)) xs) >>= fun y => lf (catL x y)) (fun _ s => s) fun a118 => (bdo (fun s => s.2) (rd fun _ => a118) (fun _ s => s) fun xs => bdo (fun s => s.2) (forL (fun (g120 : Unit) (x119 : (List Tx)) => (bdo (fun s => s) (((((((rd fun _ => x119) >>= fun x => (ret ()) >>= fun y => ret (x, y)) >>= fun y => cpu (m_first_bad_name y.1 ())) >>= fun x => ret ((fun z : (Option Tx) => (match z with | none => D.non | some z => (D.str z))) x)) >>= fun x => (((((rd fun _ => x119) >>= fun x => (ret ()) >>= fun y => ret (x, y)) >>= fun y => cpu (m__law_first_due y.1 ())) >>= fun x => ret ((fun z : (Option Tx) => (match z with | none => D.non | some z => (D.str z))) x)) >>= fun x => (ret ()) >>= fun y => ret (x, y)) >>= fun y => ret (x, y)) >>= fun y => cpu (m__law_same y.1 y.2.1 ())) >>= fun c => ret (!c)) (fun _ s => s) fun k => if k = true then mpo (fun y => (Lp.go y)) (bdo (fun s => s) (ret false) (fun _ s => s) fun a s => .ok a (s)) else (fun s => .ok (Lp.nx ()) (s)))) xs ()) (fun _ s => s) (wyk (fun s => s.2) (fun y => y) fun (g120 : Unit) => (bdo (fun s => s.2) ((rd fun _ => a114) >>= fun x => (ret none) >>= fun i => ((ret (9 : Int)) >>= fun i => ret (some i)) >>= fun j => lf (cutL x i j)) (fun _ s => s) fun xs => bdo (fun s => s.2) (forL (fun (g122 : Unit) (x121 : Tx) => (bdo (fun s => s) (((((((rd fun _ => x121) >>= fun x => (ret ()) >>= fun y => ret (x, y)) >>= fun y => cpu (m__law_four_told y.1 ())) >>= fun x => ret ((fun z : (Bool × (Bool × (Bool × (Bool × Unit)))) => (D.tup [(D.bl z.1), (D.bl z.2.1), (D.bl z.2.2.1), (D.bl z.2.2.2.1)])) x)) >>= fun x => (((((rd fun _ => x121) >>= fun x => (ret ()) >>= fun y => ret (x, y)) >>= fun y => cpu (m__law_four_due y.1 ())) >>= fun x => ret ((fun z : (Bool × (Bool × (Bool × (Bool × Unit)))) => (D.tup [(D.bl z.1), (D.bl z.2.1), (D.bl z.2.2.1), (D.bl z.2.2.2.1)])) x)) >>= fun x => (ret ()) >>= fun y => ret (x, y)) >>= fun y => ret (x, y)) >>= fun y => cpu (m__law_same y.1 y.2.1 ())) >>= fun c => ret (!c)) (fun _ s => s) fun k => if k = true then mpo (fun y => (Lp.go y)) (bdo (fun s => s) (ret false) (fun _ s => s) fun a s => .ok a (s)) else (fun s => .ok (Lp.nx ()) (s)))) xs ()) (fun _ s => s) (wyk (fun s => s.2) (fun y => y) fun (g122 : Unit) => (bdo (fun s => s.2) ((rd fun _ => a118) >>= fun x => ((ret (1 : Int)) >>= fun x => (((ret ()) >>= fun x => ((ret (5 : Int)) >>= fun x => (ret ()) >>= fun y => ret (x, y)) >>= fun y => ret (x, y)) >>= fun y => cio (fun s => s.1) (fun s w => (w, s.2)) fun w => m__law_take y.2.1 w) >>= fun y => lf (some (x + y))) >>= fun y => lf (atI x y)) (fun _ s => s) fun a123 => (bdo (fun s => s.2) (((((rd fun _ => a123) >>= fun x => cpu (m_first_bad_name x ())) >>= fun x => ret ((fun z : (Option Tx) => (match z with | none => D.non | some z => (D.str z))) x)) >>= fun x => (((((rd fun _ => a123) >>= fun x => (ret ()) >>= fun y => ret (x, y)) >>= fun y => cpu (m__law_first_due y.1 ())) >>= fun x => ret ((fun z : (Option Tx) => (match z with | none => D.non | some z => (D.str z))) x)) >>= fun x => (ret ()) >>= fun y => ret (x, y)) >>= fun y => ret (x, y)) >>= fun y => cpu (m__law_same y.1 y.2.1 ())) (fun _ s => s) fun a s => .ok a (s.2))))))))))))
abbrev N_law : List Str := ["script", "store", "found", "text", "rows", "row", "last", "k"]
theorem Sc_law : FnScope N_law ["script"] (defScope s34) := ⟨rfl, rfl, rfl, by decide +kernel, rfl, by decide +kernel, by decide +kernel⟩
theorem bo_law (T : Txt K mg) {cdv : Value} {A : Around} {outer : List Env} {s0 : Shared} {H0 : Hp} {E : XK} (hr : Room 6 (Cb Pg w K mg base N_law "law" (defScope s34) (He.ga K "law") cdv A outer s0 H0 E).A) (tk : Takes (Cb Pg w K mg base N_law "law" (defScope s34) (He.ga K "law") cdv A outer s0 H0 E) (WF E)) (hp : PassesOwn (model Pg w) (Cb Pg w K mg base N_law "law" (defScope s34) (He.ga K "law") cdv A outer s0 H0 E).A (Cb Pg w K mg base N_law "law" (defScope s34) (He.ga K "law") cdv A outer s0 H0 E).env (Cb Pg w K mg base N_law "law" (defScope s34) (He.ga K "law") cdv A outer s0 H0 E).xe) (p_script : (List Int)) :
    Bl (Cb Pg w K mg base N_law "law" (defScope s34) (He.ga K "law") cdv A outer s0 H0 E) (WF E) (fun (s : Unit) => [(aF aInt) p_script, aNo, aNo, aNo, aNo, aNo, aNo, aNo]) (defBody s34) (m_law p_script) (fun b _ => .rt (aBl b) [] []) (ehF mg K (fun _ => []) []) :=
  (by refine (bl_setP (Γ2 := fun (v113 : V) (a112 : Store) (s : (Store × Unit)) => [(aF aInt) p_script, aAt v113 (aStore s.1), aNo, aNo, aNo, aNo, aNo, aNo]) 1 ?_ eh0 ?_ (fun _ _ _ => rfl) (Sc_law).nd); (refine (ex_call0 (kx := fun y : ((List Int) × Unit) => y) (fm := fun y : ((List Int) × Unit) => m__law_store y.1 ()) (ok__law_store T) (hr.mono (by decide)) tk T.g__law_store T.kp__law_store (b__law_store T) ?_ (fun _ => rfl)); (refine (ea_cons (P := (aF aInt)) (Lb := (fun z : Unit => [])) ?_ ea_nil); (exact (ex_var (P := (aF aInt)) (f := fun _ => p_script) 0 (fun _ => rfl))))); (exact (fun v113 a112 => (by refine (bl_set (Γ2 := fun (a114 : (List Tx)) (s : (Store × Unit)) => [(aF aInt) p_script, aAt v113 (aStore s.1), (aF aStr) a114, aNo, aNo, aNo, aNo, aNo]) 2 ?_ eh0 ?_ (fun _ _ => rfl) (Sc_law).nd); (refine (ex_frz (P := (aL aStr)) ?_ fun _ => frz_list); (refine (ex_call1 (La := (fun z : (Unit × Unit) => [(fun _ : Unit => aV v113) z.1])) (kx := (fun (y : (Unit × Unit)) (w : Store) => (w, ()))) (fm := fun y : (Store × Unit) => m__law_many_texts  y.1) (A := aStore) (get := (fun (s : (Store × Unit)) => s.1)) (put := (fun (s : (Store × Unit)) w => (w, s.2))) 1 0 (ok__law_many_texts T) (hr.mono (by decide)) tk T.g__law_many_texts T.kp__law_many_texts (b__law_many_texts T) ?_ (fun _ => rfl) (fun _ _ => rfl) (fun _ => rfl) (fun _ _ => rfl)); (exact (ea_cons (P := (fun _ : Unit => aV v113)) (Lb := (fun z : Unit => [])) (ex_ref (A := fun (s : (Store × Unit)) => aStore s.1) 1 (fun _ => rfl)) ea_nil)))); (exact (fun a114 => (by refine (bl_forL (g0 := ()) (ι := (fun y => y)) (L := fun (g116 : Unit) (s : (Store × Unit)) => [aNo, aAt v113 (aStore s.1), (aF aStr) a114, aNo, aNo, aNo, aNo, aNo]) (Γb := fun (g116 : Unit) (x115 : Tx) (s : (Store × Unit)) => [aNo, aAt v113 (aStore s.1), (aF aStr) a114, aStr x115, aNo, aNo, aNo, aNo]) ?_ eh0 (tg_name (P := aStr) 3 (Sc_law).nd) (fun _ => (.no (.same (.same (.same (.same (.same (.same (.same .nil))))))))) (fun _ _ _ => rfl) ehq ?_ ?_ ort hp rfl); (refine (es_frz ?_); (exact (ex_var (P := (aF aStr)) (f := fun _ => a114) 2 (fun _ => rfl)))); (exact (fun g116 x115 => (by refine (bl_ifTm (ι := (fun y => (Lp.go y))) ?_ eh0 ?_ (bl_nil (g := fun (s : (Store × Unit)) => (Lp.nx ())) (fun _ => rfl) (fun _ => rfl) (fun _ => (.same (.same (.same (.no (.same (.same (.same (.same .nil)))))))))) nonx); (refine (et_not ?_); (refine (et_val ?_); (refine (ex_call0 (kx := fun y : (D × (D × Unit)) => y) (fm := fun y : (D × (D × Unit)) => m__law_same y.1 y.2.1 ()) (ok__law_same T) (hr.mono (by decide)) tk T.g__law_same T.kp__law_same (b__law_same T) ?_ (fun _ => rfl)); (refine (ea_cons (P := aD) (Lb := (fun z : (D × Unit) => [aD z.1])) ?_ ?_); (refine (ex_map (P := (aP4 aBl aBl aBl aBl)) (f := (fun z : (Bool × (Bool × (Bool × (Bool × Unit)))) => (D.tup [(D.bl z.1), (D.bl z.2.1), (D.bl z.2.2.1), (D.bl z.2.2.2.1)]))) (Q := aD) ?_ fun z => by first | rfl | (cases z <;> rfl) | simp [aD_tup, aD_lst, aD_int, aD_bl, aD_str, aD_non, Function.comp_def]); (refine (ex_call0 (kx := fun y : (Tx × Unit) => y) (fm := fun y : (Tx × Unit) => m__law_four_told y.1 ()) (ok__law_four_told T) (hr.mono (by decide)) tk T.g__law_four_told T.kp__law_four_told (b__law_four_told T) ?_ (fun _ => rfl)); (refine (ea_cons (P := aStr) (Lb := (fun z : Unit => [])) ?_ ea_nil); (exact (ex_var (P := aStr) (f := fun _ => x115) 3 (fun _ => rfl)))))); (refine (ea_cons (P := aD) (Lb := (fun z : Unit => [])) ?_ ea_nil); (refine (ex_map (P := (aP4 aBl aBl aBl aBl)) (f := (fun z : (Bool × (Bool × (Bool × (Bool × Unit)))) => (D.tup [(D.bl z.1), (D.bl z.2.1), (D.bl z.2.2.1), (D.bl z.2.2.2.1)]))) (Q := aD) ?_ fun z => by first | rfl | (cases z <;> rfl) | simp [aD_tup, aD_lst, aD_int, aD_bl, aD_str, aD_non, Function.comp_def]); (refine (ex_call0 (kx := fun y : (Tx × Unit) => y) (fm := fun y : (Tx × Unit) => m__law_four_due y.1 ()) (ok__law_four_due T) (hr.mono (by decide)) tk T.g__law_four_due T.kp__law_four_due (b__law_four_due T) ?_ (fun _ => rfl)); (refine (ea_cons (P := aStr) (Lb := (fun z : Unit => [])) ?_ ea_nil); (exact (ex_var (P := aStr) (f := fun _ => x115) 3 (fun _ => rfl))))))))))); (exact (bl_ret (g := fun a => a) ex_bl eh0 io0 (fun _ _ => rfl)))))); (exact (fun g116 => (by refine (bl_set (Γ2 := fun (a118 : (List (List Tx))) (s : (Store × Unit)) => [aNo, aAt v113 (aStore s.1), (aF aStr) a114, aNo, (aF (aT aStr)) a118, aNo, aNo, aNo]) 4 ?_ eh0 ?_ (fun _ _ => rfl) (Sc_law).nd); (refine (ex_frz (P := (aL (aT aStr))) ?_ fun _ => frz_list); (refine (ex_op op_cat o_catL ?_ ?_); (refine (ex_map (P := fun z : ((List Tx) × Unit) => aLs [(aT aStr) z.1]) (f := (fun z : ((List Tx) × Unit) => ([z.1] : List (List Tx)))) (Q := (aL (aT aStr))) ?_ fun _ => rfl); (exact (ex_lst (L := fun z : ((List Tx) × Unit) => [(aT aStr) z.1]) (by refine (ea_cons (P := (aT aStr)) (Lb := (fun z : Unit => [])) ?_ ea_nil); (exact (ex_map (P := fun _ => aTu []) (f := fun _ => []) (Q := (aT aStr)) (ex_tup (L := fun _ => []) ea_nil (fun _ => persL_nil)) fun _ => rfl))) (fun _ => (persL_cons persL_nil)) (fun _ => szl (Nat.le_of_ble_eq_true rfl))))); (refine (ex_lc ?_); (refine (lcj [("k", 7)] (fun (x117 : Int) (s : (Store × Unit)) => [aNo, aAt v113 (aStore s.1), (aF aStr) a114, aNo, aNo, aNo, aNo, aInt x117]) ?_ (fun _ _ _ _ _ => (tg_name (P := aInt) 7 (Sc_law).nd)) (fun _ _ => rfl) ?_ (fun _ => inferInstance) (by decide) (un_cons (fun _ => rfl) un_nil) rfl (Sc_law).nd (blkOk_by rfl)); (refine (es_rng1 ?_ T.n_range); (exact (ea_cons (P := aInt) (Lb := (fun z : Unit => [])) ex_int ea_nil))); (exact (fun _ _ _ _ _ x117 => (by refine (ex_call1 (La := (fun z : (Unit × ((List Tx) × Unit)) => [(fun _ : Unit => aV v113) z.1, (aF aStr) z.2.1])) (kx := (fun (y : (Unit × ((List Tx) × Unit))) (w : Store) => (w, (y.2.1, ())))) (fm := fun y : (Store × ((List Tx) × Unit)) => m__law_row_of_names y.2.1 y.1) (A := aStore) (get := (fun (s : (Store × Unit)) => s.1)) (put := (fun (s : (Store × Unit)) w => (w, s.2))) 1 0 (ok__law_row_of_names T) (hr.mono (by decide)) tk0 T.g__law_row_of_names T.kp__law_row_of_names (b__law_row_of_names T) ?_ (fun _ => rfl) (fun _ _ => rfl) (fun _ => rfl) (fun _ _ => rfl)); (refine (ea_cons (P := (fun _ : Unit => aV v113)) (Lb := (fun z : ((List Tx) × Unit) => [(aF aStr) z.1])) (ex_ref (A := fun (s : (Store × Unit)) => aStore s.1) 1 (fun _ => rfl)) ?_); (refine (ea_cons (P := (aF aStr)) (Lb := (fun z : Unit => [])) ?_ ea_nil); (exact (ex_var (P := (aF aStr)) (f := fun _ => a114) 2 (fun _ => rfl)))))))))))); (exact (fun a118 => (by refine (bl_forL (g0 := ()) (ι := (fun y => y)) (L := fun (g120 : Unit) (s : (Store × Unit)) => [aNo, aAt v113 (aStore s.1), (aF aStr) a114, aNo, (aF (aT aStr)) a118, aNo, aNo, aNo]) (Γb := fun (g120 : Unit) (x119 : (List Tx)) (s : (Store × Unit)) => [aNo, aAt v113 (aStore s.1), (aF aStr) a114, aNo, (aF (aT aStr)) a118, (aT aStr) x119, aNo, aNo]) ?_ eh0 (tg_name (P := (aT aStr)) 5 (Sc_law).nd) (fun _ => (.same (.same (.same (.same (.same (.same (.same (.same .nil))))))))) (fun _ _ _ => rfl) ehq ?_ ?_ ort hp rfl); (refine (es_frz ?_); (exact (ex_var (P := (aF (aT aStr))) (f := fun _ => a118) 4 (fun _ => rfl)))); (exact (fun g120 x119 => (by refine (bl_ifTm (ι := (fun y => (Lp.go y))) ?_ eh0 ?_ (bl_nil (g := fun (s : (Store × Unit)) => (Lp.nx ())) (fun _ => rfl) (fun _ => rfl) (fun _ => (.same (.same (.same (.same (.same (.no (.same (.same .nil)))))))))) nonx); (refine (et_not ?_); (refine (et_val ?_); (refine (ex_call0 (kx := fun y : (D × (D × Unit)) => y) (fm := fun y : (D × (D × Unit)) => m__law_same y.1 y.2.1 ()) (ok__law_same T) (hr.mono (by decide)) tk T.g__law_same T.kp__law_same (b__law_same T) ?_ (fun _ => rfl)); (refine (ea_cons (P := aD) (Lb := (fun z : (D × Unit) => [aD z.1])) ?_ ?_); (refine (ex_map (P := (aOpt aStr)) (f := (fun z : (Option Tx) => (match z with | none => D.non | some z => (D.str z)))) (Q := aD) ?_ fun z => by first | rfl | (cases z <;> rfl) | simp [aD_tup, aD_lst, aD_int, aD_bl, aD_str, aD_non, Function.comp_def]); (refine (ex_call0 (kx := fun y : ((List Tx) × Unit) => y) (fm := fun y : ((List Tx) × Unit) => m_first_bad_name y.1 ()) (ok_first_bad_name T) (hr.mono (by decide)) tk T.g_first_bad_name T.kp_first_bad_name (b_first_bad_name T) ?_ (fun _ => rfl)); (refine (ea_cons (P := (aT aStr)) (Lb := (fun z : Unit => [])) ?_ ea_nil); (exact (ex_var (P := (aT aStr)) (f := fun _ => x119) 5 (fun _ => rfl)))))); (refine (ea_cons (P := aD) (Lb := (fun z : Unit => [])) ?_ ea_nil); (refine (ex_map (P := (aOpt aStr)) (f := (fun z : (Option Tx) => (match z with | none => D.non | some z => (D.str z)))) (Q := aD) ?_ fun z => by first | rfl | (cases z <;> rfl) | simp [aD_tup, aD_lst, aD_int, aD_bl, aD_str, aD_non, Function.comp_def]); (refine (ex_call0 (kx := fun y : ((List Tx) × Unit) => y) (fm := fun y : ((List Tx) × Unit) => m__law_first_due y.1 ()) (ok__law_first_due T) (hr.mono (by decide)) tk T.g__law_first_due T.kp__law_first_due (b__law_first_due T) ?_ (fun _ => rfl)); (refine (ea_cons (P := (aT aStr)) (Lb := (fun z : Unit => [])) ?_ ea_nil); (exact (ex_var (P := (aT aStr)) (f := fun _ => x119) 5 (fun _ => rfl))))))))))); (exact (bl_ret (g := fun a => a) ex_bl eh0 io0 (fun _ _ => rfl)))))); (exact (fun g120 => (by refine (bl_forL (g0 := ()) (ι := (fun y => y)) (L := fun (g122 : Unit) (s : (Store × Unit)) => [aNo, aAt v113 (aStore s.1), aNo, aNo, (aF (aT aStr)) a118, aNo, aNo, aNo]) (Γb := fun (g122 : Unit) (x121 : Tx) (s : (Store × Unit)) => [aNo, aAt v113 (aStore s.1), aNo, aStr x121, (aF (aT aStr)) a118, aNo, aNo, aNo]) ?_ eh0 (tg_name (P := aStr) 3 (Sc_law).nd) (fun _ => (.same (.same (.no (.same (.same (.same (.same (.same .nil))))))))) (fun _ _ _ => rfl) ehq ?_ ?_ ort hp rfl); (refine (es_own ?_); (refine (ex_slice sl_list (o_cutL (Pa := (aF aStr)) rd_frz) ?_ eo_none ?_); (exact (ex_var (P := (aF aStr)) (f := fun _ => a114) 2 (fun _ => rfl))); (exact (eo_some ex_int)))); (exact (fun g122 x121 => (by refine (bl_ifTm (ι := (fun y => (Lp.go y))) ?_ eh0 ?_ (bl_nil (g := fun (s : (Store × Unit)) => (Lp.nx ())) (fun _ => rfl) (fun _ => rfl) (fun _ => (.same (.same (.same (.no (.same (.same (.same (.same .nil)))))))))) nonx); (refine (et_not ?_); (refine (et_val ?_); (refine (ex_call0 (kx := fun y : (D × (D × Unit)) => y) (fm := fun y : (D × (D × Unit)) => m__law_same y.1 y.2.1 ()) (ok__law_same T) (hr.mono (by decide)) tk T.g__law_same T.kp__law_same (b__law_same T) ?_ (fun _ => rfl)); (refine (ea_cons (P := aD) (Lb := (fun z : (D × Unit) => [aD z.1])) ?_ ?_); (refine (ex_map (P := (aP4 aBl aBl aBl aBl)) (f := (fun z : (Bool × (Bool × (Bool × (Bool × Unit)))) => (D.tup [(D.bl z.1), (D.bl z.2.1), (D.bl z.2.2.1), (D.bl z.2.2.2.1)]))) (Q := aD) ?_ fun z => by first | rfl | (cases z <;> rfl) | simp [aD_tup, aD_lst, aD_int, aD_bl, aD_str, aD_non, Function.comp_def]); (refine (ex_call0 (kx := fun y : (Tx × Unit) => y) (fm := fun y : (Tx × Unit) => m__law_four_told y.1 ()) (ok__law_four_told T) (hr.mono (by decide)) tk T.g__law_four_told T.kp__law_four_told (b__law_four_told T) ?_ (fun _ => rfl)); (refine (ea_cons (P := aStr) (Lb := (fun z : Unit => [])) ?_ ea_nil); (exact (ex_var (P := aStr) (f := fun _ => x121) 3 (fun _ => rfl)))))); (refine (ea_cons (P := aD) (Lb := (fun z : Unit => [])) ?_ ea_nil); (refine (ex_map (P := (aP4 aBl aBl aBl aBl)) (f := (fun z : (Bool × (Bool × (Bool × (Bool × Unit)))) => (D.tup [(D.bl z.1), (D.bl z.2.1), (D.bl z.2.2.1), (D.bl z.2.2.2.1)]))) (Q := aD) ?_ fun z => by first | rfl | (cases z <;> rfl) | simp [aD_tup, aD_lst, aD_int, aD_bl, aD_str, aD_non, Function.comp_def]); (refine (ex_call0 (kx := fun y : (Tx × Unit) => y) (fm := fun y : (Tx × Unit) => m__law_four_due y.1 ()) (ok__law_four_due T) (hr.mono (by decide)) tk T.g__law_four_due T.kp__law_four_due (b__law_four_due T) ?_ (fun _ => rfl)); (refine (ea_cons (P := aStr) (Lb := (fun z : Unit => [])) ?_ ea_nil); (exact (ex_var (P := aStr) (f := fun _ => x121) 3 (fun _ => rfl))))))))))); (exact (bl_ret (g := fun a => a) ex_bl eh0 io0 (fun _ _ => rfl)))))); (exact (fun g122 => (by refine (bl_set (Γ2 := fun (a123 : (List Tx)) (s : (Store × Unit)) => [aNo, aAt v113 (aStore s.1), aNo, aNo, (aF (aT aStr)) a118, aNo, (aT aStr) a123, aNo]) 6 ?_ eh0 ?_ (fun _ _ => rfl) (Sc_law).nd); (refine (ex_ix ix_any (o_ixR (Pa := (aF (aT aStr))) (P := (aT aStr)) (fun _ => inferInstance) (fun _ => inferInstance)) ?_ ?_); (exact (ex_var (P := (aF (aT aStr))) (f := fun _ => a118) 4 (fun _ => rfl))); (refine (ex_op op_add o_int ex_int ?_); (refine (ex_call1 (La := (fun z : (Unit × (Int × Unit)) => [(fun _ : Unit => aV v113) z.1, aInt z.2.1])) (kx := (fun (y : (Unit × (Int × Unit))) (w : Store) => (w, (y.2.1, ())))) (fm := fun y : (Store × (Int × Unit)) => m__law_take y.2.1 y.1) (A := aStore) (get := (fun (s : (Store × Unit)) => s.1)) (put := (fun (s : (Store × Unit)) w => (w, s.2))) 1 0 (ok__law_take T) (hr.mono (by decide)) tk T.g__law_take T.kp__law_take (b__law_take T) ?_ (fun _ => rfl) (fun _ _ => rfl) (fun _ => rfl) (fun _ _ => rfl)); (refine (ea_cons (P := (fun _ : Unit => aV v113)) (Lb := (fun z : (Int × Unit) => [aInt z.1])) (ex_ref (A := fun (s : (Store × Unit)) => aStore s.1) 1 (fun _ => rfl)) ?_); (exact (ea_cons (P := aInt) (Lb := (fun z : Unit => [])) ex_int ea_nil)))))); (exact (fun a123 => (by refine (bl_ret (g := fun a => a) ?_ eh0 io0 (fun _ _ => rfl)); (refine (ex_call0 (kx := fun y : (D × (D × Unit)) => y) (fm := fun y : (D × (D × Unit)) => m__law_same y.1 y.2.1 ()) (ok__law_same T) (hr.mono (by decide)) tk T.g__law_same T.kp__law_same (b__law_same T) ?_ (fun _ => rfl)); (refine (ea_cons (P := aD) (Lb := (fun z : (D × Unit) => [aD z.1])) ?_ ?_); (refine (ex_map (P := (aOpt aStr)) (f := (fun z : (Option Tx) => (match z with | none => D.non | some z => (D.str z)))) (Q := aD) ?_ fun z => by first | rfl | (cases z <;> rfl) | simp [aD_tup, aD_lst, aD_int, aD_bl, aD_str, aD_non, Function.comp_def]); (refine (ex_callK1 (P := (aT aStr)) (kx := fun x : (List Tx) => (x, ())) (fm := fun y : (List Tx) × Unit => m_first_bad_name y.1 ()) (ok_first_bad_name T) (hr.mono (by decide)) tk T.g_first_bad_name (T.kp_first_bad_name) (kb_first_bad_name T) ?_ (fun _ => rfl)); (exact (ex_var (P := (aT aStr)) (f := fun _ => a123) 6 (fun _ => rfl))))); (refine (ea_cons (P := aD) (Lb := (fun z : Unit => [])) ?_ ea_nil); (refine (ex_map (P := (aOpt aStr)) (f := (fun z : (Option Tx) => (match z with | none => D.non | some z => (D.str z)))) (Q := aD) ?_ fun z => by first | rfl | (cases z <;> rfl) | simp [aD_tup, aD_lst, aD_int, aD_bl, aD_str, aD_non, Function.comp_def]); (refine (ex_call0 (kx := fun y : ((List Tx) × Unit) => y) (fm := fun y : ((List Tx) × Unit) => m__law_first_due y.1 ()) (ok__law_first_due T) (hr.mono (by decide)) tk T.g__law_first_due T.kp__law_first_due (b__law_first_due T) ?_ (fun _ => rfl)); (refine (ea_cons (P := (aT aStr)) (Lb := (fun z : Unit => [])) ?_ ea_nil); (exact (ex_var (P := (aT aStr)) (f := fun _ => a123) 6 (fun _ => rfl)))))))))))))))))))))))))))))))
theorem ok_law (T : Txt K mg) : FnOk Pg w K mg base (L2.CX Pg w) 7 (He.ga K "law") (T.F_law).choose ["script"] (spC mg K (fun y : ((List Int) × Unit) => [(aF aInt) y.1]) [] aBl (fun _ => []) fun y => m_law y.1 ()) :=
  fn0 (pin := fun y : ((List Int) × Unit) => [(aF aInt) y.1]) (m := fun y => m_law y.1) (Γ := fun y (s : Unit) => [(aF aInt) y.1, aNo, aNo, aNo, aNo, aNo, aNo, aNo]) (T.F_law).choose_spec Sc_law (fun _ => rfl) (fun _ => rfl) fun cdv A outer s H E hr tk hp y => bo_law T hr tk hp y.1
theorem b_law (T : Txt K mg) : Binds K (T.F_law).choose ["script"] [] := FunD.bindsN (T.F_law).choose_spec fun _ _ _ _ _ _ us hl => match us, hl with | [_], _ => rfl
theorem Txt.kp_law (T : Txt K mg) : PySem.W.keepIn K (.ref (He.ga K "law")) = true := (T.F_law).choose_spec.kp
end
end K

set_option maxHeartbeats 4000000
namespace K
open PySem PySem.Spec PyProof.Rows L2 G
theorem rb_ok {S α β : Type} {a : α} {s : S} {k : α → S → Rs S β} : (Rs.ok a s).bind k = k a s := rfl
theorem bdo_eq {S S2 Ω α o : Type} (π : S → Ω) (m : M S α) (mk : α → S → S2) (k : α → S2 → Rs Ω o) (s : S) : bdo π m mk k s = match m s with
  | .ok a s' => k a (mk a s')
  | .er x s' => .er x (π s')
  | .st => .st := rfl
theorem lf_ite {S α : Type} {c : Prop} [Decidable c] {a : α} (h : c) : (lf (if c then some a else none) : M S α) = ret a := by rw [if_pos h]; rfl
theorem lf_s {S α : Type} {a : α} : (lf (some a) : M S α) = ret a := rfl
theorem len_ok {S : Type} {t : Tx} (h : t.length ≤ SZ) : (lf (lenT t) : M S Int) = ret (t.length : Int) := by unfold lenT; rw [if_pos h]; rfl
theorem put_ok {S S' α : Type} {a : α} {s : S} {f : S → S'} : (Rs.ok a s).put f = .ok a (f s) := rfl
theorem cpu_eq {S α : Type} {r : Rs Unit α} {s : S} : cpu r s = r.put fun _ => s := rfl
theorem ite_ap {S α : Type} {c : Bool} {m n : M S α} {s : S} : (if c = true then m else n) s = if c = true then m s else n s := by cases c <;> rfl
theorem ite_ap2 {S Ω o : Type} {c : Bool} {m n : S → Rs Ω o} {s : S} : (if c = true then m else n) s = if c = true then m s else n s := by cases c <;> rfl
theorem tt {α : Type} {a b : α} : (if true = true then a else b) = a := rfl
theorem ff {α : Type} {a b : α} : (if false = true then a else b) = b := rfl
def lo (c : Nat) : Bool := decide (97 ≤ c) && decide (c ≤ 122)
def dg (c : Nat) : Bool := decide (48 ≤ c) && decide (c ≤ 57)
theorem one_le {a c : Nat} : (!decide ([c] < [a])) = decide (a ≤ c) := by
  rw [Bool.eq_iff_iff]
  simp [List.cons_lt_cons_iff]
theorem t_a : tx (Str.ofString "a") = [97] := by decide +kernel
theorem t_z : tx (Str.ofString "z") = [122] := by decide +kernel
theorem t_0 : tx (Str.ofString "0") = [48] := by decide +kernel
theorem t_9 : tx (Str.ofString "9") = [57] := by decide +kernel
theorem t_til : tx (Str.ofString "~") = [126] := by decide +kernel
theorem szn {n : Nat} (h : n ≤ 10000) : n ≤ SZ := Nat.le_trans h (by decide)
theorem is_letter1 (c : Nat) : m_is_letter [c] () = .ok (lo c) () := by
  unfold m_is_letter
  simp only [bdo_eq, m_bind, ret_ok, rd_ok, rb_ok, len_ok (szn (show [c].length ≤ 10000 by simp)), ite_ap, lf_s, t_a, t_z, one_le, lo, List.length_singleton]
  by_cases h : 97 ≤ c <;> by_cases h2 : c ≤ 122 <;> simp [h, h2]
theorem is_digit1 (c : Nat) : m_is_digit [c] () = .ok (dg c) () := by
  unfold m_is_digit
  simp only [bdo_eq, m_bind, ret_ok, rd_ok, rb_ok, len_ok (szn (show [c].length ≤ 10000 by simp)), ite_ap, lf_s, t_0, t_9, one_le, dg, List.length_singleton]
  by_cases h : 48 ≤ c <;> by_cases h2 : c ≤ 57 <;> simp [h, h2]
theorem is_letter0 : m_is_letter [] () = .ok false () := by
  unfold m_is_letter
  simp only [bdo_eq, m_bind, ret_ok, rd_ok, rb_ok, len_ok (szn (show ([] : Tx).length ≤ 10000 by simp)), ite_ap, lf_s, List.length_nil]
  simp
def ns (c : Nat) : Bool := lo c || dg c
theorem is_name_sign1 (c : Nat) : m_is_name_sign [c] () = .ok (ns c) () := by
  unfold m_is_name_sign
  simp only [bdo_eq, m_bind, ret_ok, rd_ok, rb_ok, cpu_eq, is_letter1, is_digit1, put_ok, ite_ap]
  unfold ns
  cases lo c <;> simp
theorem all_comp {S : Type} {s : S} {f : Tx → M S Bool} {g : Nat → Bool} (t : Tx) (hz : t.length ≤ SZ) (h : ∀ c, f [c] s = .ok (g c) s) : mpM f (t.map fun c => [c]) s = .ok (t.map g) s := by
  have := mpM_ok (f := f) (g := fun x => match x with
    | [c] => g c
    | _ => false) (xs := t.map fun c => [c]) (s := s) (by rw [List.length_map]; exact hz) (fun x hx => by
      obtain ⟨c, _, rfl⟩ := List.mem_map.mp hx
      exact h c)
  rw [this, List.map_map]
  rfl
theorem all_id {t : Tx} {g : Nat → Bool} : (t.map g).all id = t.all g := by induction t <;> simp_all
def run (t : Tx) (n : Int) : Bool := decide ((t.length : Int) ≤ n) && (match t with
  | [] => false
  | c :: _ => lo c) && t.all ns
theorem has_name_form_ok (t : Tx) (n : Int) (hz : t.length ≤ SZ) : m_has_name_form t n () = .ok (run t n) () := by
  unfold m_has_name_form
  by_cases h : n < (t.length : Int)
  · have h2 : ¬ (t.length : Int) ≤ n := by omega
    simp only [bdo_eq, m_bind, ret_ok, rd_ok, rb_ok, ite_ap, ite_ap2, lf_s, cpu_eq, put_ok, if_true, if_false, Bool.false_eq_true, len_ok hz, h, decide_true, run, h2, decide_false, Bool.false_and]
  · have h2 : (t.length : Int) ≤ n := by omega
    have e : (lf (cutT t none (some 1)) : M Unit Tx) = ret (t.take 1) := by
      unfold cutT
      rw [if_pos hz]
      cases t <;> simp [HT.sIx, lf]
    simp only [bdo_eq, m_bind, ret_ok, rd_ok, rb_ok, ite_ap, ite_ap2, lf_s, cpu_eq, put_ok, if_true, if_false, Bool.false_eq_true, len_ok hz, h, decide_false, e, run, h2, decide_true, Bool.true_and]
    cases t with
    | nil => simp only [List.take_nil, is_letter0, bdo_eq, m_bind, ret_ok, rd_ok, rb_ok, ite_ap, ite_ap2, lf_s, cpu_eq, put_ok, if_true, if_false, Bool.false_eq_true, Bool.not_false, Bool.false_and]
    | cons c t =>
      cases hl : lo c with
      | false => simp only [List.take_succ_cons, List.take_zero, is_letter1, bdo_eq, m_bind, ret_ok, rd_ok, rb_ok, ite_ap, ite_ap2, lf_s, cpu_eq, put_ok, if_true, if_false, Bool.false_eq_true, hl, Bool.not_false, Bool.false_and]
      | true =>
        simp only [List.take_succ_cons, List.take_zero, is_letter1, bdo_eq, m_bind, ret_ok, rd_ok, rb_ok, ite_ap, ite_ap2, lf_s, cpu_eq, put_ok, if_true, if_false, Bool.false_eq_true, hl, Bool.not_true, Bool.true_and]
        rw [all_comp (g := ns) (c :: t) hz (fun c => by simp only [bdo_eq, m_bind, ret_ok, rd_ok, rb_ok, ite_ap, ite_ap2, lf_s, cpu_eq, put_ok, if_true, if_false, Bool.false_eq_true, is_name_sign1])]
        simp only [bdo_eq, m_bind, ret_ok, rd_ok, rb_ok, ite_ap, ite_ap2, lf_s, cpu_eq, put_ok, if_true, if_false, Bool.false_eq_true, all_id]
theorem is_name_ok (t : Tx) (hz : t.length ≤ SZ) : m_is_name t () = .ok (run t 12) () := by
  unfold m_is_name
  simp only [bdo_eq, m_bind, ret_ok, rd_ok, rb_ok, cpu_eq, has_name_form_ok t 12 hz, put_ok]
theorem is_word_ok (t : Tx) (hz : t.length ≤ SZ) : m_is_word t () = .ok (run t 40) () := by
  unfold m_is_word
  simp only [bdo_eq, m_bind, ret_ok, rd_ok, rb_ok, cpu_eq, has_name_form_ok t 40 hz, put_ok]
def tail (t : Tx) : Bool := decide (t.length ≤ 6) && t.all ns
theorem is_tail_ok (t : Tx) (hz : t.length ≤ SZ) : m_is_tail t () = .ok (tail t) () := by
  unfold m_is_tail
  simp only [bdo_eq, m_bind, ret_ok, rd_ok, rb_ok, len_ok hz, ite_ap, lf_s, cpu_eq]
  rw [all_comp (g := ns) t hz (fun c => by simp only [m_bind, ret_ok, rd_ok, rb_ok, is_name_sign1, put_ok, cpu_eq])]
  simp only [rb_ok, all_id, tail]
  by_cases h : t.length ≤ 6
  · have h2 : (t.length : Int) ≤ 6 := by omega
    simp [h, h2]
  · have h2 : ¬ (t.length : Int) ≤ 6 := by omega
    simp [h, h2]
theorem forL_first {α S o : Type} {s : S} {b : Unit → α → S → Rs S (Lp Unit o)} (ok : α → Bool) (r : α → o) : ∀ xs : List α, (∀ x ∈ xs, b () x s = .ok (if ok x = true then .nx () else .go (r x)) s) → forL b xs () s = .ok (match xs.find? (fun x => !ok x) with
    | none => .nx ()
    | some x => .go (r x)) s
  | [], _ => rfl
  | x :: xs, h => by
    unfold forL
    rw [h x (List.mem_cons_self ..), rb_ok]
    cases hx : ok x with
    | true =>
      simp only [if_true, List.find?_cons, hx, Bool.not_true]
      exact forL_first ok r xs fun y hy => h y (List.mem_cons_of_mem _ hy)
    | false => simp [List.find?_cons, hx]
theorem find_none {α : Type} {p : α → Bool} {xs : List α} : xs.find? (fun x => !p x) = none ↔ xs.all p = true := by
  simp [List.find?_eq_none]
theorem forL_all {α S : Type} {s : S} {b : Unit → α → S → Rs S (Lp Unit Bool)} (ok : α → Bool) (xs : List α) (h : ∀ x ∈ xs, b () x s = .ok (if ok x = true then .nx () else .go false) s) : forL b xs () s = .ok (if xs.all ok = true then .nx () else .go false) s := by
  rw [forL_first ok (fun _ => false) xs h]
  cases hf : xs.find? (fun x => !ok x) with
  | none => rw [if_pos (find_none.mp hf)]
  | some x =>
    have : ¬ xs.all ok = true := fun h => by rw [find_none.mpr h] at hf; cases hf
    rw [if_neg this]
theorem t_az : tx (Str.ofString "abcdefghijklmnopqrstuvwxyz") = (List.range 26).map (· + 97) := by decide +kernel
theorem t_az9 : tx (Str.ofString "abcdefghijklmnopqrstuvwxyz0123456789") = (List.range 26).map (· + 97) ++ (List.range 10).map (· + 48) := by decide +kernel
theorem mem_az (c : Nat) : decide (c ∈ (List.range 26).map (· + 97)) = lo c := by
  rw [Bool.eq_iff_iff]
  simp only [decide_eq_true_eq, List.mem_map, List.mem_range, lo, Bool.and_eq_true]
  constructor
  · rintro ⟨a, h, rfl⟩; omega
  · intro h; exact ⟨c - 97, by omega, by omega⟩
theorem mem_az9 (c : Nat) : decide (c ∈ (List.range 26).map (· + 97) ++ (List.range 10).map (· + 48)) = ns c := by
  rw [Bool.eq_iff_iff]
  simp only [decide_eq_true_eq, List.mem_append, List.mem_map, List.mem_range, ns, lo, dg, Bool.or_eq_true, Bool.and_eq_true]
  constructor
  · rintro (⟨a, h, rfl⟩ | ⟨a, h, rfl⟩) <;> omega
  · rintro (h | h)
    · exact .inl ⟨c - 97, by omega, by omega⟩
    · exact .inr ⟨c - 48, by omega, by omega⟩
theorem notin_az (c : Nat) : notInT1 [c] (tx (Str.ofString "abcdefghijklmnopqrstuvwxyz")) = some (!lo c) := by
  rw [t_az]; unfold notInT1; simp only [mem_az]
theorem notin_az9 (c : Nat) : notInT1 [c] (tx (Str.ofString "abcdefghijklmnopqrstuvwxyz0123456789")) = some (!ns c) := by
  rw [t_az9]; unfold notInT1; simp only [mem_az9]
theorem all_map {t : Tx} {g : Nat → Bool} {k : Tx → Bool} (h : ∀ c, k [c] = g c) : (t.map fun c => [c]).all k = t.all g := by induction t <;> simp_all
def n1 : Tx → Bool := fun x => match x with
  | [c] => ns c
  | _ => false
theorem law_is_run_ok (t : Tx) (n : Int) (hz : t.length ≤ SZ) : m__law_is_run t n () = .ok (run t n) () := by
  unfold m__law_is_run
  cases t with
  | nil => simp [bdo_eq, m_bind, ret_ok, rd_ok, rb_ok, ite_ap, ite_ap2, lf_s, cpu_eq, put_ok, if_true, if_false, Bool.false_eq_true, len_ok hz, run]
  | cons c t =>
    have h1 : ¬ ((c :: t).length : Int) < 1 := by simp only [List.length_cons]; omega
    have e1 : (lf (ixT (c :: t) 0) : M Unit Tx) = ret [c] := by
      unfold ixT
      rw [if_pos hz]
      simp [atI, ixN, lf]
    have e2 : ∀ x : Tx, (lf (if x.length ≤ SZ then some (x.map fun c => [c]) else none) : M Unit (List Tx)) = if x.length ≤ SZ then ret (x.map fun c => [c]) else stk := fun x => by split <;> rfl
    simp only [bdo_eq, m_bind, ret_ok, rd_ok, rb_ok, ite_ap, ite_ap2, lf_s, cpu_eq, put_ok, if_true, if_false, Bool.false_eq_true, len_ok hz, h1, decide_false, e1, notin_az, lf_ite hz]
    by_cases h : n < ((c :: t).length : Int)
    · have h2 : ¬ ((c :: t).length : Int) ≤ n := by omega
      simp only [h, decide_true, bdo_eq, m_bind, ret_ok, rd_ok, rb_ok, ite_ap, ite_ap2, lf_s, cpu_eq, put_ok, if_true, if_false, Bool.false_eq_true, run, h2, decide_false, Bool.false_and]
    · have h2 : ((c :: t).length : Int) ≤ n := by omega
      simp only [h, decide_false, bdo_eq, m_bind, ret_ok, rd_ok, rb_ok, ite_ap, ite_ap2, lf_s, cpu_eq, put_ok, if_true, if_false, Bool.false_eq_true, run, h2, decide_true, Bool.true_and]
      cases hl : lo c with
      | false => simp only [Bool.not_false, bdo_eq, m_bind, ret_ok, rd_ok, rb_ok, ite_ap, ite_ap2, lf_s, cpu_eq, put_ok, if_true, if_false, Bool.false_eq_true, Bool.false_and]
      | true =>
        simp only [Bool.not_true, bdo_eq, m_bind, ret_ok, rd_ok, rb_ok, ite_ap, ite_ap2, lf_s, cpu_eq, put_ok, if_true, if_false, Bool.false_eq_true, Bool.true_and]
        refine (bdo_ok (forL_all n1 ((c :: t).map fun c => [c]) fun x hx => ?_)).trans ?_
        · obtain ⟨c, _, rfl⟩ := List.mem_map.mp hx
          simp only [bdo_eq, m_bind, ret_ok, rd_ok, rb_ok, ite_ap, ite_ap2, lf_s, cpu_eq, put_ok, if_true, if_false, Bool.false_eq_true, notin_az9, n1]
          by_cases hc : ns c = true
          · simp [hc]
          · have hc : ns c = false := by simpa using hc
            simp [hc, mpo, bdo_eq, Rs.map, ret_ok]
        · rw [all_map (g := ns) (fun c => rfl)]
          cases (c :: t).all ns <;> simp [wyk, bdo_eq, ret_ok]
theorem law_is_tail_ok (t : Tx) (hz : t.length ≤ SZ) : m__law_is_tail t () = .ok (tail t) () := by
  unfold m__law_is_tail
  simp only [bdo_eq, m_bind, ret_ok, rd_ok, rb_ok, ite_ap, ite_ap2, lf_s, cpu_eq, put_ok, if_true, if_false, Bool.false_eq_true, lf_ite hz]
  refine (bdo_ok (forL_all n1 (t.map fun c => [c]) fun x hx => ?_)).trans ?_
  · obtain ⟨c, _, rfl⟩ := List.mem_map.mp hx
    simp only [bdo_eq, m_bind, ret_ok, rd_ok, rb_ok, ite_ap, ite_ap2, lf_s, cpu_eq, put_ok, if_true, if_false, Bool.false_eq_true, notin_az9, n1]
    by_cases hc : ns c = true
    · simp [hc]
    · have hc : ns c = false := by simpa using hc
      simp [hc, mpo, bdo_eq, Rs.map, ret_ok]
  · rw [all_map (g := ns) (fun c => rfl)]
    by_cases hc : t.all ns = true
    · simp only [hc, if_true, wyk, bdo_eq, m_bind, ret_ok, rd_ok, rb_ok, ite_ap, ite_ap2, lf_s, cpu_eq, put_ok, if_true, if_false, Bool.false_eq_true, len_ok hz, tail, Bool.and_true]
      have : decide ((t.length : Int) < 7) = decide (t.length ≤ 6) := by
        rw [Bool.eq_iff_iff]; simp only [decide_eq_true_eq]; omega
      rw [this]
    · have hc : t.all ns = false := by simpa using hc
      simp [hc, wyk, tail]
def parts (t : Tx) : List Tx := TL.spl [126] 0 [] t
theorem spl_len : ∀ (t acc : Tx) (k : Nat), ∀ p ∈ TL.spl [126] k acc t, p.length ≤ acc.length + t.length
  | [], acc, k, p, h => by
    rw [TL.spl_nil] at h
    rw [List.mem_singleton.mp h]
    exact Nat.le_add_right _ _
  | c :: r, acc, 0, p, h => by
    unfold TL.spl at h
    split at h
    · rcases List.mem_cons.mp h with rfl | h
      · exact Nat.le_add_right _ _
      · have := spl_len r [] _ p h
        simp only [List.length_nil, List.length_cons] at *
        omega
    · have := spl_len r (acc ++ [c]) 0 p h
      simp only [List.length_append, List.length_cons, List.length_nil] at *
      omega
  | c :: r, acc, k + 1, p, h => by
    unfold TL.spl at h
    have := spl_len r acc k p h
    simp only [List.length_cons] at *
    omega
theorem spl_count : ∀ (t acc : Tx) (k : Nat), (TL.spl [126] k acc t).length ≤ t.length + 1
  | [], acc, k => by rw [TL.spl_nil]; simp
  | c :: r, acc, 0 => by
    unfold TL.spl
    split
    · have := spl_count r [] ([126].length - 1)
      simp only [List.length_cons] at *
      omega
    · have := spl_count r (acc ++ [c]) 0
      simp only [List.length_cons] at *
      omega
  | c :: r, acc, k + 1 => by
    unfold TL.spl
    have := spl_count r acc k
    simp only [List.length_cons] at *
    omega
theorem parts_len (t p : Tx) (h : p ∈ parts t) : p.length ≤ t.length := by
  have := spl_len t [] 0 p h
  simpa using this
def rname (t : Tx) : Bool := decide ((parts t).length ≤ 4) && (parts t).all fun p => run p 12
theorem split_ok {S : Type} (t : Tx) (hz : t.length + 2 ≤ SZ) : (lf (splitT t (tx (Str.ofString "~"))) : M S (List Tx)) = ret (parts t) := by
  unfold splitT
  rw [t_til, if_pos ⟨by simp, by decide, hz⟩]
  rfl
theorem is_reading_name_ok (t : Tx) (hz : t.length + 2 ≤ SZ) : m_is_reading_name t () = .ok (rname t) () := by
  unfold m_is_reading_name
  simp only [bdo_eq, m_bind, ret_ok, rd_ok, rb_ok, ite_ap, ite_ap2, lf_s, cpu_eq, put_ok, if_true, if_false, Bool.false_eq_true, split_ok t hz]
  rw [mpM_ok (g := fun p => run p 12) (by have := spl_count t [] 0; exact Nat.le_trans this (by omega)) (fun p hp => by
    have := parts_len t p hp
    simp only [bdo_eq, m_bind, ret_ok, rd_ok, rb_ok, ite_ap, ite_ap2, lf_s, cpu_eq, put_ok, if_true, if_false, Bool.false_eq_true, is_name_ok p (by omega)])]
  simp only [rb_ok]
  have : decide (((parts t).length : Int) ≤ 4) = decide ((parts t).length ≤ 4) := by
    rw [Bool.eq_iff_iff]; simp only [decide_eq_true_eq]; omega
  rw [this]
  unfold rname
  by_cases h : (parts t).length ≤ 4 <;> simp [h, List.all_map]
theorem law_is_reading_name_ok (t : Tx) (hz : t.length + 2 ≤ SZ) : m__law_is_reading_name t () = .ok (rname t) () := by
  unfold m__law_is_reading_name
  simp only [bdo_eq, m_bind, ret_ok, rd_ok, rb_ok, ite_ap, ite_ap2, lf_s, cpu_eq, put_ok, if_true, if_false, Bool.false_eq_true, split_ok t hz]
  refine (bdo_ok (forL_all (fun p => run p 12) (parts t) fun p hp => ?_)).trans ?_
  · have := parts_len t p hp
    simp only [bdo_eq, m_bind, ret_ok, rd_ok, rb_ok, ite_ap, ite_ap2, lf_s, cpu_eq, put_ok, if_true, if_false, Bool.false_eq_true, law_is_run_ok p 12 (by omega)]
    by_cases hc : run p 12 = true
    · simp [hc]
    · have hc : run p 12 = false := by simpa using hc
      simp [hc, mpo, bdo_eq, Rs.map, ret_ok]
  · have : decide (((parts t).length : Int) < 5) = decide ((parts t).length ≤ 4) := by
      rw [Bool.eq_iff_iff]; simp only [decide_eq_true_eq]; omega
    by_cases hc : ((parts t).all fun p => run p 12) = true
    · simp only [hc, if_true, wyk, bdo_eq, m_bind, ret_ok, rd_ok, rb_ok, ite_ap, ite_ap2, lf_s, cpu_eq, put_ok, if_true, if_false, Bool.false_eq_true, rname, Bool.and_true, this]
    · have hc : ((parts t).all fun p => run p 12) = false := by simpa using hc
      simp only [hc, if_false, Bool.false_eq_true, wyk, rname, Bool.and_false]
theorem first_bad_name_ok (ts : List Tx) (hz : ∀ t ∈ ts, t.length ≤ SZ) : m_first_bad_name ts () = .ok (ts.find? fun t => !run t 12) () := by
  unfold m_first_bad_name
  simp only [bdo_eq, m_bind, ret_ok, rd_ok, rb_ok, ite_ap, ite_ap2, lf_s, cpu_eq, put_ok, if_true, if_false, Bool.false_eq_true]
  refine (bdo_ok (forL_first (fun t => run t 12) some ts fun p hp => ?_)).trans ?_
  · simp only [bdo_eq, m_bind, ret_ok, rd_ok, rb_ok, ite_ap, ite_ap2, lf_s, cpu_eq, put_ok, if_true, if_false, Bool.false_eq_true, is_name_ok p (hz p hp)]
    by_cases hc : run p 12 = true
    · simp [hc]
    · have hc : run p 12 = false := by simpa using hc
      simp [hc, mpo, bdo_eq, Rs.map, ret_ok, m_bind, rd_ok, rb_ok]
  · cases ts.find? fun t => !run t 12 <;> simp [wyk, bdo_eq, m_bind, ret_ok, rd_ok, rb_ok, ite_ap, ite_ap2, lf_s, cpu_eq, put_ok, if_true, if_false, Bool.false_eq_true]
theorem law_first_due_ok (ts : List Tx) (hz : ∀ t ∈ ts, t.length ≤ SZ) : m__law_first_due ts () = .ok (ts.find? fun t => !run t 12) () := by
  unfold m__law_first_due
  simp only [bdo_eq, m_bind, ret_ok, rd_ok, rb_ok, ite_ap, ite_ap2, lf_s, cpu_eq, put_ok, if_true, if_false, Bool.false_eq_true]
  refine (bdo_ok (forL_first (fun t => run t 12) some ts fun p hp => ?_)).trans ?_
  · simp only [bdo_eq, m_bind, ret_ok, rd_ok, rb_ok, ite_ap, ite_ap2, lf_s, cpu_eq, put_ok, if_true, if_false, Bool.false_eq_true, law_is_run_ok p 12 (hz p hp)]
    by_cases hc : run p 12 = true
    · simp [hc]
    · have hc : run p 12 = false := by simpa using hc
      simp [hc, mpo, bdo_eq, Rs.map, ret_ok, m_bind, rd_ok, rb_ok]
  · cases ts.find? fun t => !run t 12 <;> simp [wyk, bdo_eq, m_bind, ret_ok, rd_ok, rb_ok, ite_ap, ite_ap2, lf_s, cpu_eq, put_ok, if_true, if_false, Bool.false_eq_true]
theorem four_due_ok (t : Tx) (hz : t.length + 2 ≤ SZ) : m__law_four_due t () = .ok (run t 12, run t 40, tail t, rname t, ()) () := by
  unfold m__law_four_due
  have h := Nat.le_trans (Nat.le_add_right _ _) hz
  simp only [bdo_eq, m_bind, ret_ok, rd_ok, rb_ok, ite_ap, ite_ap2, lf_s, cpu_eq, put_ok, if_true, if_false, Bool.false_eq_true, law_is_run_ok t 12 h, law_is_run_ok t 40 h, law_is_tail_ok t h, law_is_reading_name_ok t hz]
theorem four_told_ok (t : Tx) (hz : t.length + 2 ≤ SZ) : m__law_four_told t () = .ok (run t 12, run t 40, tail t, rname t, ()) () := by
  unfold m__law_four_told
  have h := Nat.le_trans (Nat.le_add_right _ _) hz
  simp only [bdo_eq, m_bind, ret_ok, rd_ok, rb_ok, ite_ap, ite_ap2, lf_s, cpu_eq, put_ok, if_true, if_false, Bool.false_eq_true, is_name_ok t h, is_word_ok t h, is_tail_ok t h, is_reading_name_ok t hz]
end K

set_option maxHeartbeats 4000000
namespace K
open PySem PySem.Spec PyProof.Rows L2 G
theorem cmul_r {x y : Int} (h : -(2 ^ 64) < y ∧ y < 2 ^ 64) : CMul x y := .inr h
theorem mixed_ok (n t : Int) : ∃ r, 0 ≤ r ∧ m__law_mixed n t () = .ok r () := by
  unfold m__law_mixed
  simp only [bdo_eq, m_bind, ret_ok, rd_ok, rb_ok, lf_s, lf_ite (show (0 : Int) < 2147483647 by decide), lf_ite (cmul_r (x := t) (y := 7919) (by decide))]
  generalize ((n % 2147483647 + t * 7919 + 104729) % 2147483647) = a
  simp only [lf_ite (cmul_r (x := a) (y := 48271) (by decide)), rb_ok, ret_ok, lf_ite (show (0 : Int) < 2147483647 by decide)]
  have hb0 : 0 ≤ a * 48271 % 2147483647 := Int.emod_nonneg _ (by decide)
  have hb1 : a * 48271 % 2147483647 < 2147483647 := Int.emod_lt_of_pos _ (by decide)
  generalize a * 48271 % 2147483647 = b at hb0 hb1
  simp only [lf_ite (cmul_r (x := b) (y := b) ⟨by omega, by omega⟩), rb_ok, ret_ok, lf_ite (show CDiv b 7 from ⟨by decide, by decide⟩), lf_ite (show (0 : Int) < 1000000007 by decide), lf_s]
  generalize (b * b + b / 7 + t) % 1000000007 = d
  simp only [lf_ite (cmul_r (x := d) (y := 69621) (by decide)), rb_ok, ret_ok, lf_ite (show (0 : Int) < 998244353 by decide)]
  have he0 : 0 ≤ d * 69621 % 998244353 := Int.emod_nonneg _ (by decide)
  generalize d * 69621 % 998244353 = e at he0
  simp only [lf_ite (show CDiv e 11 from ⟨by decide, by decide⟩), ret_ok, rb_ok]
  exact ⟨_, Int.ediv_nonneg he0 (by decide), rfl⟩
theorem mixed_wp {n t : Int} {R : Exn → Unit → Prop} : (m__law_mixed n t ()).wp (fun r _ => 0 ≤ r) R := by
  obtain ⟨r, h, e⟩ := mixed_ok n t
  exact wp_of e h
def SI (s : Store) : Prop := 0 ≤ s.at_
theorem store_wp {xs : List Int} {R : Exn → Unit → Prop} (hz : xs.length ≤ 63) : (m__law_store xs ()).wp (fun r _ => SI r) R := by
  unfold m__law_store
  refine bdo_cut (I := fun c _ => c.length ≤ SZ) ?_ fun c _ hc => ?_
  · simp only [bdo_wp, bind_wp, ret_wp, rd_wp, lfs_wp, lfi_wp, cpu_wp, cio_wp, ms_wp, G.ok_wp, st_wp, iti_wp, bdo_wpF, ite_wpM, ite_wpG, ite_wpF, lenT_wp, wyk_nx, wyk_go, mpo_wp]
    refine lfx_wp rfl (cl (mpM_wp (I := fun _ => True) (p := fun _ _ => True) (Nat.le_trans ?_ (show 63 ≤ SZ by decide)) trivial ?_) fun ys s h => ?_)
    · simp; omega
    · intro x _ s _
      simp only [bdo_wp, bind_wp, ret_wp, rd_wp, lfs_wp, lfi_wp, cpu_wp, cio_wp, ms_wp, G.ok_wp, st_wp, iti_wp, bdo_wpF, ite_wpM, ite_wpG, ite_wpF, lenT_wp, wyk_nx, wyk_go, mpo_wp]
      exact ⟨trivial, trivial⟩
    · have := Paired.length h.1
      rw [← this]
      refine Nat.le_trans ?_ (show 63 ≤ SZ by decide)
      simp; omega
  refine bdo_cut (I := fun _ _ => True) (by simp only [bdo_wp, bind_wp, ret_wp, rd_wp, lfs_wp, lfi_wp, cpu_wp, cio_wp, ms_wp, G.ok_wp, st_wp, iti_wp, bdo_wpF, ite_wpM, ite_wpG, ite_wpF, lenT_wp, wyk_nx, wyk_go, mpo_wp]) fun a _ _ => ?_
  refine bdo_cut (I := fun x _ => True) (by simp only [bdo_wp, bind_wp, ret_wp, rd_wp, lfs_wp, lfi_wp, cpu_wp, cio_wp, ms_wp, G.ok_wp, st_wp, iti_wp, bdo_wpF, ite_wpM, ite_wpG, ite_wpF, lenT_wp, wyk_nx, wyk_go, mpo_wp]) fun xs _ _ => ?_
  refine bdo_cut (I := fun _ _ => True) (forN_inv (I := fun _ _ => True) trivial fun x _ g s _ => ?_) fun g _ _ => ?_
  · simp only [bdo_wp, bind_wp, ret_wp, rd_wp, lfs_wp, lfi_wp, cpu_wp, cio_wp, ms_wp, G.ok_wp, st_wp, iti_wp, bdo_wpF, ite_wpM, ite_wpG, ite_wpF, lenT_wp, wyk_nx, wyk_go, mpo_wp]
    exact ⟨cmul_r (by decide), by decide, by decide, trivial⟩
  · simp only [bdo_wp, bind_wp, ret_wp, rd_wp, lfs_wp, lfi_wp, cpu_wp, cio_wp, ms_wp, G.ok_wp, st_wp, iti_wp, bdo_wpF, ite_wpM, ite_wpG, ite_wpF, lenT_wp, wyk_nx, wyk_go, mpo_wp]
    exact Int.le_refl 0
theorem take_wp {s : Store} {many : Int} {R : Exn → Store → Prop} (hs : SI s) (hm : many < 1073741824) : (m__law_take many s).wp (fun r s' => (0 ≤ r ∧ (r < many ∨ r = 0)) ∧ SI s') R := by
  unfold m__law_take
  refine bdo_cut (I := fun k s2 => k = decide (many < 2) ∧ s2 = s) (by simp only [bdo_wp, bind_wp, ret_wp, rd_wp, lfs_wp, lfi_wp, cpu_wp, cio_wp, ms_wp, G.ok_wp, st_wp, iti_wp, bdo_wpF, ite_wpM, ite_wpG, ite_wpF, lenT_wp, wyk_nx, wyk_go, mpo_wp]; exact ⟨by trivial, by trivial⟩) (fun k s2 ⟨hk, e⟩ => ?_)
  subst hk e
  refine ite_wp'.mpr ⟨fun h => ?_, fun h => ?_⟩
  · simp only [bdo_wp, bind_wp, ret_wp, rd_wp, lfs_wp, lfi_wp, cpu_wp, cio_wp, ms_wp, G.ok_wp, st_wp, iti_wp, bdo_wpF, ite_wpM, ite_wpG, ite_wpF, lenT_wp, wyk_nx, wyk_go, mpo_wp]; exact ⟨⟨Int.le_refl _, .inr (by trivial)⟩, hs⟩
  have h : ¬ many < 2 := of_decide_eq_false h
  refine bdo_cut (I := fun _ s2 => SI s2) (by simp only [bdo_wp, bind_wp, ret_wp, rd_wp, lfs_wp, lfi_wp, cpu_wp, cio_wp, ms_wp, G.ok_wp, st_wp, iti_wp, bdo_wpF, ite_wpM, ite_wpG, ite_wpF, lenT_wp, wyk_nx, wyk_go, mpo_wp]; exact hs) (fun _ s1 h1 => ?_)
  refine bdo_cut (I := fun k s2 => SI s2 ∧ (k = true → s2.at_ < s2.cells.length)) ?_ (fun k s2 ⟨h2, hk⟩ => ?_)
  · simp only [bdo_wp, bind_wp, ret_wp, rd_wp, lfs_wp, lfi_wp, cpu_wp, cio_wp, ms_wp, G.ok_wp, st_wp, iti_wp, bdo_wpF, ite_wpM, ite_wpG, ite_wpF, lenT_wp, wyk_nx, wyk_go, mpo_wp]
    refine ⟨fun _ => ⟨fun _ => ⟨h1, fun z => of_decide_eq_true z⟩, fun _ => ⟨h1, fun z => nomatch z⟩⟩, fun _ => ⟨h1, fun z => nomatch z⟩⟩
  refine bdo_cut (I := fun _ s3 => SI s3) ?_ (fun _ s3 h3 => ?_)
  · refine ite_wp'.mpr ⟨fun z => ?_, fun _ => h2⟩
    obtain ⟨c, e, _⟩ := atI_at (xs := s2.cells) h2 (hk z)
    simp only [bdo_wp, bind_wp, ret_wp, rd_wp, lfs_wp, lfi_wp, cpu_wp, cio_wp, ms_wp, G.ok_wp, st_wp, iti_wp, bdo_wpF, ite_wpM, ite_wpG, ite_wpF, lenT_wp, wyk_nx, wyk_go, mpo_wp]
    refine lfx_wp e ?_
    have hq : 0 ≤ s2.at_ + 1 := by have := h2; unfold SI at this; omega
    exact ⟨by decide, fun _ => hq, fun _ => ⟨by decide, by decide, by decide, by decide, hq⟩⟩
  refine bdo_cut (I := fun _ s4 => SI s4) (by simp only [bdo_wp, bind_wp, ret_wp, rd_wp, lfs_wp, lfi_wp, cpu_wp, cio_wp, ms_wp, G.ok_wp, st_wp, iti_wp, bdo_wpF, ite_wpM, ite_wpG, ite_wpF, lenT_wp, wyk_nx, wyk_go, mpo_wp]; exact h3) (fun k s4 h4 => ?_)
  have hp : 0 < many := by omega
  have hf : ∀ r : Int, 0 ≤ r % many ∧ (r % many < many ∨ r % many = 0) := fun r => ⟨Int.emod_nonneg _ (by omega), .inl (Int.emod_lt_of_pos _ hp)⟩
  refine ite_wp'.mpr ⟨fun _ => ?_, fun _ => ?_⟩
  · simp only [bdo_wp, bind_wp, ret_wp, rd_wp, lfs_wp, lfi_wp, cpu_wp, cio_wp, ms_wp, G.ok_wp, st_wp, iti_wp, bdo_wpF, ite_wpM, ite_wpG, ite_wpF, lenT_wp, wyk_nx, wyk_go, mpo_wp]
    exact ⟨hp, ⟨hp, by omega⟩, hf _, h4⟩
  refine bdo_cut (I := fun _ s5 => SI s5) (by simp only [bdo_wp, bind_wp, ret_wp, rd_wp, lfs_wp, lfi_wp, cpu_wp, cio_wp, ms_wp, G.ok_wp, st_wp, iti_wp, bdo_wpF, ite_wpM, ite_wpG, ite_wpF, lenT_wp, wyk_nx, wyk_go, mpo_wp]; exact h4) (fun k s5 h5 => ?_)
  refine ite_wp'.mpr ⟨fun _ => ?_, fun _ => ?_⟩
  · simp only [bdo_wp, bind_wp, ret_wp, rd_wp, lfs_wp, lfi_wp, cpu_wp, cio_wp, ms_wp, G.ok_wp, st_wp, iti_wp, bdo_wpF, ite_wpM, ite_wpG, ite_wpF, lenT_wp, wyk_nx, wyk_go, mpo_wp]
    exact cl mixed_wp fun r _ _ => ⟨hp, hf _, h5⟩
  · simp only [bdo_wp, bind_wp, ret_wp, rd_wp, lfs_wp, lfi_wp, cpu_wp, cio_wp, ms_wp, G.ok_wp, st_wp, iti_wp, bdo_wpF, ite_wpM, ite_wpG, ite_wpF, lenT_wp, wyk_nx, wyk_go, mpo_wp]
    exact cl mixed_wp fun r _ _ => ⟨hp, hf _, h5⟩
theorem take1_wp {s : Store} {many : Int} {R : Exn → Store → Prop} (hs : SI s) (hm : many < 1073741824) (h1 : 1 ≤ many) : (m__law_take many s).wp (fun r s' => (0 ≤ r ∧ r < many) ∧ SI s') R :=
  cl (take_wp hs hm) fun r s' h => ⟨⟨h.1.1, by have := h.1; omega⟩, h.2⟩
theorem pick_wp {α : Type} {xs : List α} {s : Store} {R : Exn → Store → Prop} (hs : SI s) (h0 : 0 < xs.length) (h1 : xs.length < 1073741824) : (m__law_pick xs s).wp (fun r s' => r ∈ xs ∧ SI s') R := by
  unfold m__law_pick
  simp only [bdo_wp, bind_wp, ret_wp, rd_wp, lfs_wp, lfi_wp, cpu_wp, cio_wp, ms_wp, G.ok_wp, st_wp, iti_wp, bdo_wpF, ite_wpM, ite_wpG, ite_wpF, lenT_wp, wyk_nx, wyk_go, mpo_wp]
  refine cl (take1_wp hs (by omega) (by omega)) fun r s' h => ?_
  obtain ⟨x, e, hx⟩ := atI_at h.1.1 h.1.2
  exact lfx_wp e ⟨hx, h.2⟩
theorem edge_wp {lo hi : Int} {s : Store} {R : Exn → Store → Prop} (hs : SI s) (h : lo ≤ hi) (h1 : hi - lo < 1000000000) : (m__law_edge lo hi s).wp (fun r s' => (lo ≤ r ∧ r ≤ hi) ∧ SI s') R := by
  unfold m__law_edge
  simp only [bdo_wp, bind_wp, ret_wp, rd_wp, lfs_wp, lfi_wp, cpu_wp, cio_wp, ms_wp, G.ok_wp, st_wp, iti_wp, bdo_wpF, ite_wpM, ite_wpG, ite_wpF, lenT_wp, wyk_nx, wyk_go, mpo_wp]
  refine ⟨fun z => ⟨⟨Int.le_refl _, h⟩, hs⟩, fun z => ?_⟩
  refine cl (take1_wp hs (by decide) (by decide)) fun r s1 q1 => ⟨fun _ => ?_, fun _ => ?_⟩
  · refine cl (take1_wp q1.2 (by decide) (by decide)) fun r s2 q2 => ⟨cmul_r ⟨by omega, by omega⟩, ?_, q2.2⟩
    rcases (show r = 0 ∨ r = 1 by omega) with rfl | rfl <;> omega
  · refine cl (take1_wp q1.2 (by omega) (by omega)) fun r s2 q2 => ⟨?_, q2.2⟩
    omega
theorem text_wp {n : Int} {s : Store} {R : Exn → Store → Prop} (hs : SI s) (h0 : 0 ≤ n) (h1 : n ≤ 100) : (m__law_text n s).wp (fun r s' => r.length ≤ 100 ∧ SI s') R := by
  unfold m__law_text
  refine bdo_cut (I := fun a s2 => a = tx " !\"#$&'()*+,-./0123456789:;<=>?@ABCDEFGHIJKLMNOPQRSTUVWXYZ[\\]^_`abcdefghijklmnopqrstuvwxyz{|}~" ∧ s2 = s) ⟨rfl, rfl⟩ fun a s2 ⟨e, e2⟩ => ?_
  have la : 1 ≤ a.length ∧ a.length ≤ 100 := by subst e; decide +kernel
  clear e
  subst e2
  refine bdo_cut (I := fun _ s2 => SI s2) (by simp only [bdo_wp, bind_wp, ret_wp, rd_wp, lfs_wp, lfi_wp, cpu_wp, cio_wp, ms_wp, G.ok_wp, st_wp, iti_wp, bdo_wpF, ite_wpM, ite_wpG, ite_wpF, lenT_wp, wyk_nx, wyk_go, mpo_wp]; exact cl (take1_wp hs (by decide) (by decide)) fun r s1 q1 => q1.2) fun k s3 h3 => ?_
  refine bdo_cut (I := fun g s2 => (1 ≤ g.1.length ∧ g.1.length ≤ 100) ∧ SI s2) ?_ fun g s4 ⟨h4, h5⟩ => ?_
  · refine ite_wp'.mpr ⟨fun _ => ?_, fun _ => ⟨la, h3⟩⟩
    refine ⟨?_, h3⟩
    show 1 ≤ (tx "ab0z9 .:;=<>|/()~-,").length ∧ (tx "ab0z9 .:;=<>|/()~-,").length ≤ 100
    decide +kernel
  simp only [bdo_wp, bind_wp, ret_wp, rd_wp, lfs_wp, lfi_wp, cpu_wp, cio_wp, ms_wp, G.ok_wp, st_wp, iti_wp, bdo_wpF, ite_wpM, ite_wpG, ite_wpF, lenT_wp, wyk_nx, wyk_go, mpo_wp]
  refine lfx_wp (rng1_ok (by omega) h0) ?_
  refine cl (mpM_wp (I := SI) (p := fun _ t => t.length ≤ 1) (by rw [rng_len]; exact Nat.le_trans (show n.toNat ≤ 100 by omega) (by decide)) h5 fun x _ s hs => ?_) fun ys s5 h6 => ?_
  · simp only [bdo_wp, bind_wp, ret_wp, rd_wp, lfs_wp, lfi_wp, cpu_wp, cio_wp, ms_wp, G.ok_wp, st_wp, iti_wp, bdo_wpF, ite_wpM, ite_wpG, ite_wpF, lenT_wp, wyk_nx, wyk_go, mpo_wp]
    refine ⟨Nat.le_trans h4.2 (by decide), ?_⟩
    refine cl (take1_wp hs (by omega) (by omega)) fun r s1 q1 => ?_
    obtain ⟨c, e, _⟩ := ixT_at (t := g.1) (Nat.le_trans h4.2 (by decide)) q1.1.1 q1.1.2
    exact lfx_wp e ⟨Nat.le_refl _, q1.2⟩
  · have hl : ys.length ≤ 100 := by rw [← Paired.length h6.1, rng_len]; omega
    obtain ⟨r, e, hr⟩ := joinT_le (a := tx "") (B := 1) (Paired.all (q := fun t : Tx => t.length ≤ 1) (fun _ _ h => h) h6.1) hl (by decide +kernel)
    exact lfx_wp e ⟨Nat.le_trans hr (by decide +kernel), h6.2⟩
theorem run_wp {n : Int} {s : Store} {R : Exn → Store → Prop} (hs : SI s) (h0 : 0 ≤ n) (h1 : n ≤ 60) : (m__law_run n s).wp (fun r s' => r.length ≤ n.toNat ∧ SI s') R := by
  unfold m__law_run
  refine bdo_cut (I := fun a s2 => a.length = 36 ∧ SI s2) ⟨by show (tx "abcdefghijklmnopqrstuvwxyz0123456789").length = 36; decide +kernel, hs⟩ fun a s2 ⟨la, h2⟩ => ?_
  refine bdo_cut (I := fun f s2 => (0 ≤ f ∧ f < 26) ∧ SI s2) (by simp only [bdo_wp, bind_wp, ret_wp, rd_wp, lfs_wp, lfi_wp, cpu_wp, cio_wp, ms_wp, G.ok_wp, st_wp, iti_wp, bdo_wpF, ite_wpM, ite_wpG, ite_wpF, lenT_wp, wyk_nx, wyk_go, mpo_wp]; exact take1_wp h2 (by decide) (by decide)) fun f s3 ⟨hf, h3⟩ => ?_
  refine bdo_cut (I := fun _ s2 => SI s2) (by simp only [bdo_wp, bind_wp, ret_wp, rd_wp, lfs_wp, lfi_wp, cpu_wp, cio_wp, ms_wp, G.ok_wp, st_wp, iti_wp, bdo_wpF, ite_wpM, ite_wpG, ite_wpF, lenT_wp, wyk_nx, wyk_go, mpo_wp]; exact cl (take1_wp h3 (by decide) (by decide)) fun r s1 q1 => q1.2) fun k s4 h4 => ?_
  obtain ⟨c, ec, _⟩ := ixT_at (t := a) (by rw [la]; decide) hf.1 (by omega)
  refine ite_wp'.mpr ⟨fun _ => ?_, fun _ => ?_⟩
  · simp only [bdo_wp, bind_wp, ret_wp, rd_wp, lfs_wp, lfi_wp, cpu_wp, cio_wp, ms_wp, G.ok_wp, st_wp, iti_wp, bdo_wpF, ite_wpM, ite_wpG, ite_wpF, lenT_wp, wyk_nx, wyk_go, mpo_wp]
    refine lfx_wp ec ?_
    obtain ⟨r, er, hr⟩ := repT_ok (a := [c]) h0 (by omega) (Nat.le_trans (show [c].length * n.toNat ≤ 60 by simp; omega) (by decide))
    exact lfx_wp er ⟨by rw [hr]; simp, h4⟩
  refine bdo_cut (I := fun a s2 => a.length = 0 ∧ SI s2) ⟨by show (tx "").length = 0; decide +kernel, h4⟩ fun e s5 ⟨he, h5⟩ => ?_
  refine bdo_cut (I := fun xs s2 => xs = rng 0 n ∧ SI s2) (by simp only [bdo_wp, bind_wp, ret_wp, rd_wp, lfs_wp, lfi_wp, cpu_wp, cio_wp, ms_wp, G.ok_wp, st_wp, iti_wp, bdo_wpF, ite_wpM, ite_wpG, ite_wpF, lenT_wp, wyk_nx, wyk_go, mpo_wp]; exact lfx_wp (rng1_ok (by omega) h0) ⟨rfl, h5⟩) fun xs s6 ⟨ex, h6⟩ => ?_
  subst ex
  refine bdo_cut (I := fun g s2 => g.1.length ≤ n.toNat ∧ SI s2) (cl (forN_wp (I := fun a c g s => a.length + c.length = n.toNat ∧ g.1.length ≤ a.length ∧ SI s) (xs := []) ⟨by simp [rng_len], by show e.length ≤ 0; omega, h6⟩ fun a' x c' g s ⟨e1, e2, e3⟩ => ?_) fun g s ⟨q1, q2, q3⟩ => ⟨by simp at q1 q2; omega, q3⟩) fun g s7 ⟨h7, h8⟩ => ?_
  · have e1' : a'.length + (c'.length + 1) = n.toNat := e1
    refine bdo_cut (I := fun _ s2 => SI s2) (by simp only [bdo_wp, bind_wp, ret_wp, rd_wp, lfs_wp, lfi_wp, cpu_wp, cio_wp, ms_wp, G.ok_wp, st_wp, iti_wp, bdo_wpF, ite_wpM, ite_wpG, ite_wpF, lenT_wp, wyk_nx, wyk_go, mpo_wp]; exact e3) fun k s1 hs1 => ?_
    refine bdo_cut (I := fun g' s2 => g'.1.length ≤ a'.length + 1 ∧ SI s2) ?_ fun g' s2 ⟨q1, q2⟩ => ?_
    · refine ite_wp'.mpr ⟨fun _ => ?_, fun _ => ?_⟩ <;> simp only [bdo_wp, bind_wp, ret_wp, rd_wp, lfs_wp, lfi_wp, cpu_wp, cio_wp, ms_wp, G.ok_wp, st_wp, iti_wp, bdo_wpF, ite_wpM, ite_wpG, ite_wpF, lenT_wp, wyk_nx, wyk_go, mpo_wp]
      · refine lfx_wp ec (lfx_wp (catT_ok (Nat.le_trans (show g.1.length + [c].length ≤ 100 by simp; omega) (by decide))) ⟨by simp; omega, hs1⟩)
      · refine cl (take1_wp hs1 (by decide) (by decide)) fun r s2 q1 => ?_
        obtain ⟨d, ed, _⟩ := ixT_at (t := a) (by rw [la]; decide) q1.1.1 (by omega)
        refine lfx_wp ed (lfx_wp (catT_ok (Nat.le_trans (show g.1.length + [d].length ≤ 100 by simp; omega) (by decide))) ⟨by simp; omega, q1.2⟩)
    · simp only [bdo_wp, bind_wp, ret_wp, rd_wp, lfs_wp, lfi_wp, cpu_wp, cio_wp, ms_wp, G.ok_wp, st_wp, iti_wp, bdo_wpF, ite_wpM, ite_wpG, ite_wpF, lenT_wp, wyk_nx, wyk_go, mpo_wp]
      exact ⟨by simp; omega, by simp; omega, q2⟩
  · simp only [bdo_wp, bind_wp, ret_wp, rd_wp, lfs_wp, lfi_wp, cpu_wp, cio_wp, ms_wp, G.ok_wp, st_wp, iti_wp, bdo_wpF, ite_wpM, ite_wpG, ite_wpF, lenT_wp, wyk_nx, wyk_go, mpo_wp]
    exact ⟨h7, h8⟩
theorem strI_dig {r : Int} (h0 : 0 ≤ r) (h1 : r < 10) : ∃ t, strI r = some t ∧ t.length = 1 := by
  rcases (show r = 0 ∨ r = 1 ∨ r = 2 ∨ r = 3 ∨ r = 4 ∨ r = 5 ∨ r = 6 ∨ r = 7 ∨ r = 8 ∨ r = 9 by omega) with rfl | rfl | rfl | rfl | rfl | rfl | rfl | rfl | rfl | rfl <;> exact ⟨_, if_pos (by decide +kernel), by decide +kernel⟩
theorem szk {n : Nat} (h : n ≤ 10000) : n ≤ SZ := Nat.le_trans h (by decide)
theorem bad_name_wp {s : Store} {R : Exn → Store → Prop} (hs : SI s) : (m__law_bad_name s).wp (fun r s' => r.length ≤ 30 ∧ SI s') R := by
  unfold m__law_bad_name
  refine bdo_cut (I := fun a s2 => a.length ≤ 11 ∧ SI s2) (by
    simp only [bdo_wp, bind_wp, ret_wp, rd_wp, lfs_wp, lfi_wp, cpu_wp, cio_wp, ms_wp, G.ok_wp, st_wp, iti_wp, bdo_wpF, ite_wpM, ite_wpG, ite_wpF, lenT_wp, wyk_nx, wyk_go, mpo_wp]
    refine cl (edge_wp hs (by decide) (by decide)) fun r s1 q1 => ?_
    exact cl (run_wp q1.2 (by omega) (by omega)) fun t s2 q2 => ⟨by omega, q2.2⟩) fun a s2 ⟨ha, h2⟩ => ?_
  refine bdo_cut (I := fun _ s2 => SI s2) (by
    simp only [bdo_wp, bind_wp, ret_wp, rd_wp, lfs_wp, lfi_wp, cpu_wp, cio_wp, ms_wp, G.ok_wp, st_wp, iti_wp, bdo_wpF, ite_wpM, ite_wpG, ite_wpF, lenT_wp, wyk_nx, wyk_go, mpo_wp]
    exact ⟨szk (by omega), cl (take1_wp h2 (by omega) (by omega)) fun r s1 q => q.2⟩) fun b s3 h3 => ?_
  refine bdo_cut (I := fun _ s2 => SI s2) (by
    simp only [bdo_wp, bind_wp, ret_wp, rd_wp, lfs_wp, lfi_wp, cpu_wp, cio_wp, ms_wp, G.ok_wp, st_wp, iti_wp, bdo_wpF, ite_wpM, ite_wpG, ite_wpF, lenT_wp, wyk_nx, wyk_go, mpo_wp]
    exact cl (take1_wp h3 (by decide) (by decide)) fun r s1 q => q.2) fun w s4 h4 => ?_
  refine bdo_cut (I := fun _ s2 => SI s2) (by simp only [bdo_wp, bind_wp, ret_wp, rd_wp, lfs_wp, lfi_wp, cpu_wp, cio_wp, ms_wp, G.ok_wp, st_wp, iti_wp, bdo_wpF, ite_wpM, ite_wpG, ite_wpF, lenT_wp, wyk_nx, wyk_go, mpo_wp]; exact h4) fun k s5 h5 => ?_
  refine ite_wp'.mpr ⟨fun _ => ⟨by show (tx "").length ≤ 30; decide +kernel, h5⟩, fun _ => ?_⟩
  refine bdo_cut (I := fun _ s2 => SI s2) (by simp only [bdo_wp, bind_wp, ret_wp, rd_wp, lfs_wp, lfi_wp, cpu_wp, cio_wp, ms_wp, G.ok_wp, st_wp, iti_wp, bdo_wpF, ite_wpM, ite_wpG, ite_wpF, lenT_wp, wyk_nx, wyk_go, mpo_wp]; exact h5) fun k s5 h5 => ?_
  refine ite_wp'.mpr ⟨fun _ => ?_, fun _ => ?_⟩
  · simp only [bdo_wp, bind_wp, ret_wp, rd_wp, lfs_wp, lfi_wp, cpu_wp, cio_wp, ms_wp, G.ok_wp, st_wp, iti_wp, bdo_wpF, ite_wpM, ite_wpG, ite_wpF, lenT_wp, wyk_nx, wyk_go, mpo_wp]
    refine cl (take1_wp h5 (by decide) (by decide)) fun r s1 q1 => ?_
    exact cl (run_wp q1.2 (by omega) (by omega)) fun t s2 q2 => ⟨by omega, q2.2⟩
  refine bdo_cut (I := fun _ s2 => SI s2) (by simp only [bdo_wp, bind_wp, ret_wp, rd_wp, lfs_wp, lfi_wp, cpu_wp, cio_wp, ms_wp, G.ok_wp, st_wp, iti_wp, bdo_wpF, ite_wpM, ite_wpG, ite_wpF, lenT_wp, wyk_nx, wyk_go, mpo_wp]; exact h5) fun k s5 h5 => ?_
  refine ite_wp'.mpr ⟨fun _ => ?_, fun _ => ?_⟩ <;> simp only [bdo_wp, bind_wp, ret_wp, rd_wp, lfs_wp, lfi_wp, cpu_wp, cio_wp, ms_wp, G.ok_wp, st_wp, iti_wp, bdo_wpF, ite_wpM, ite_wpG, ite_wpF, lenT_wp, wyk_nx, wyk_go, mpo_wp]
  · refine cl (take1_wp h5 (by decide) (by decide)) fun r s1 q1 => ?_
    obtain ⟨t, e, ht⟩ := strI_dig q1.1.1 q1.1.2
    exact lfx_wp e (lfx_wp (catT_ok (szk (by omega))) ⟨by rw [List.length_append]; omega, q1.2⟩)
  · obtain ⟨x, ex, hx⟩ := cutT_le (a := a) (lo := none) (hi := some b) (szk (by omega))
    obtain ⟨y, ey, hy⟩ := cutT_le (a := a) (lo := some b) (hi := none) (szk (by omega))
    refine lfx_wp ex (cl (take1_wp h5 (by decide) (by decide)) fun r s1 q1 => ?_)
    obtain ⟨d, ed, _⟩ := ixT_at (t := tx "AZ _-.~/;") (i := r) (by decide +kernel) q1.1.1 (by have e : ((tx "AZ _-.~/;").length : Int) = 9 := (by decide +kernel); rw [e]; exact q1.1.2)
    refine lfx_wp ed (lfx_wp (catT_ok (szk (by simp; omega))) (lfx_wp ey (lfx_wp (catT_ok (szk (by simp; omega))) ⟨by simp; omega, q1.2⟩)))
theorem near_name_wp {s : Store} {R : Exn → Store → Prop} (hs : SI s) : (m__law_near_name s).wp (fun r s' => r.length ≤ 200 ∧ SI s') R := by
  unfold m__law_near_name
  refine bdo_cut (I := fun _ s2 => SI s2) (by simp only [bdo_wp, bind_wp, ret_wp, rd_wp, lfs_wp, lfi_wp, cpu_wp, cio_wp, ms_wp, G.ok_wp, st_wp, iti_wp, bdo_wpF, ite_wpM, ite_wpG, ite_wpF, lenT_wp, wyk_nx, wyk_go, mpo_wp]; exact cl (take1_wp hs (by decide) (by decide)) fun r s1 q => q.2) fun w s2 h2 => ?_
  refine bdo_cut (I := fun a s2 => (0 ≤ a ∧ a ≤ 41) ∧ SI s2) (by
    simp only [bdo_wp, bind_wp, ret_wp, rd_wp, lfs_wp, lfi_wp, cpu_wp, cio_wp, ms_wp, G.ok_wp, st_wp, iti_wp, bdo_wpF, ite_wpM, ite_wpG, ite_wpF, lenT_wp, wyk_nx, wyk_go, mpo_wp]
    refine cl (pick_wp h2 (by decide) (by decide)) fun r s1 q => ⟨?_, q.2⟩
    have := q.1
    simp only [List.mem_cons, List.not_mem_nil, or_false] at this
    omega) fun sz s3 ⟨hz, h3⟩ => ?_
  refine bdo_cut (I := fun _ s2 => SI s2) (by simp only [bdo_wp, bind_wp, ret_wp, rd_wp, lfs_wp, lfi_wp, cpu_wp, cio_wp, ms_wp, G.ok_wp, st_wp, iti_wp, bdo_wpF, ite_wpM, ite_wpG, ite_wpF, lenT_wp, wyk_nx, wyk_go, mpo_wp]; exact h3) fun k s5 h5 => ?_
  refine ite_wp'.mpr ⟨fun _ => ?_, fun _ => ?_⟩
  · simp only [bdo_wp, bind_wp, ret_wp, rd_wp, lfs_wp, lfi_wp, cpu_wp, cio_wp, ms_wp, G.ok_wp, st_wp, iti_wp, bdo_wpF, ite_wpM, ite_wpG, ite_wpF, lenT_wp, wyk_nx, wyk_go, mpo_wp]
    exact cl (bad_name_wp h5) fun r s q => ⟨by omega, q.2⟩
  refine bdo_cut (I := fun _ s2 => SI s2) (by simp only [bdo_wp, bind_wp, ret_wp, rd_wp, lfs_wp, lfi_wp, cpu_wp, cio_wp, ms_wp, G.ok_wp, st_wp, iti_wp, bdo_wpF, ite_wpM, ite_wpG, ite_wpF, lenT_wp, wyk_nx, wyk_go, mpo_wp]; exact h5) fun k s5 h5 => ?_
  refine ite_wp'.mpr ⟨fun _ => ?_, fun _ => ?_⟩
  · simp only [bdo_wp, bind_wp, ret_wp, rd_wp, lfs_wp, lfi_wp, cpu_wp, cio_wp, ms_wp, G.ok_wp, st_wp, iti_wp, bdo_wpF, ite_wpM, ite_wpG, ite_wpF, lenT_wp, wyk_nx, wyk_go, mpo_wp]
    refine cl (edge_wp h5 (by decide) (by decide)) fun r s1 q1 => ?_
    exact cl (text_wp q1.2 (by omega) (by omega)) fun t s2 q2 => ⟨by omega, q2.2⟩
  refine bdo_cut (I := fun _ s2 => SI s2) (by simp only [bdo_wp, bind_wp, ret_wp, rd_wp, lfs_wp, lfi_wp, cpu_wp, cio_wp, ms_wp, G.ok_wp, st_wp, iti_wp, bdo_wpF, ite_wpM, ite_wpG, ite_wpF, lenT_wp, wyk_nx, wyk_go, mpo_wp]; exact h5) fun k s5 h5 => ?_
  refine ite_wp'.mpr ⟨fun _ => ?_, fun _ => ?_⟩
  · simp only [bdo_wp, bind_wp, ret_wp, rd_wp, lfs_wp, lfi_wp, cpu_wp, cio_wp, ms_wp, G.ok_wp, st_wp, iti_wp, bdo_wpF, ite_wpM, ite_wpG, ite_wpF, lenT_wp, wyk_nx, wyk_go, mpo_wp]
    refine cl (take1_wp h5 (by decide) (by decide)) fun r s1 q1 => ?_
    obtain ⟨t, e, ht⟩ := strI_dig q1.1.1 q1.1.2
    obtain ⟨r, er, hr⟩ := repT_ok (a := t) (n := sz) hz.1 (by omega) (szk (by rw [ht]; omega))
    exact lfx_wp e (lfx_wp er ⟨by rw [hr, ht]; omega, q1.2⟩)
  refine bdo_cut (I := fun _ s2 => SI s2) (by simp only [bdo_wp, bind_wp, ret_wp, rd_wp, lfs_wp, lfi_wp, cpu_wp, cio_wp, ms_wp, G.ok_wp, st_wp, iti_wp, bdo_wpF, ite_wpM, ite_wpG, ite_wpF, lenT_wp, wyk_nx, wyk_go, mpo_wp]; exact h5) fun k s5 h5 => ?_
  refine ite_wp'.mpr ⟨fun _ => ?_, fun _ => ?_⟩
  · refine bdo_cut (I := fun _ s2 => (s2.1.length ≤ 5 ∧ 1 ≤ s2.1.length ∧ ∀ t ∈ s2.1, t.length ≤ 30) ∧ SI s2.2) ?_ fun k s6 ⟨h6, h7⟩ => ?_
    · simp only [bdo_wp, bind_wp, ret_wp, rd_wp, lfs_wp, lfi_wp, cpu_wp, cio_wp, ms_wp, G.ok_wp, st_wp, iti_wp, bdo_wpF, ite_wpM, ite_wpG, ite_wpF, lenT_wp, wyk_nx, wyk_go, mpo_wp]
      refine cl (edge_wp h5 (by decide) (by decide)) fun r s1 q1 => ?_
      refine lfx_wp (rng1_ok (by omega) (by omega)) ?_
      refine cl (mpM_wp (I := SI) (p := fun _ t => t.length ≤ 30) (by rw [rng_len]; exact szk (by omega)) q1.2 fun x _ s hs => ?_) fun ys s2 q2 => ?_
      · simp only [bdo_wp, bind_wp, ret_wp, rd_wp, lfs_wp, lfi_wp, cpu_wp, cio_wp, ms_wp, G.ok_wp, st_wp, iti_wp, bdo_wpF, ite_wpM, ite_wpG, ite_wpF, lenT_wp, wyk_nx, wyk_go, mpo_wp]
        refine cl (edge_wp hs (by decide) (by decide)) fun r s1 q1 => ?_
        exact cl (run_wp q1.2 (by omega) (by omega)) fun t s2 q2 => ⟨by omega, q2.2⟩
      · have := Paired.length q2.1
        rw [rng_len] at this
        exact ⟨⟨by omega, by omega, Paired.all (q := fun t : Tx => t.length ≤ 30) (fun _ _ h => h) q2.1⟩, q2.2⟩
    refine bdo_cut (I := fun _ s2 => (s2.1.length ≤ 5 ∧ 1 ≤ s2.1.length ∧ ∀ t ∈ s2.1, t.length ≤ 30) ∧ SI s2.2) (by
      simp only [bdo_wp, bind_wp, ret_wp, rd_wp, lfs_wp, lfi_wp, cpu_wp, cio_wp, ms_wp, G.ok_wp, st_wp, iti_wp, bdo_wpF, ite_wpM, ite_wpG, ite_wpF, lenT_wp, wyk_nx, wyk_go, mpo_wp]
      exact cl (take1_wp h7 (by decide) (by decide)) fun r s1 q => ⟨h6, q.2⟩) fun k s7 ⟨h8, h9⟩ => ?_
    refine bdo_cut (I := fun _ s2 => (s2.1.length ≤ 5 ∧ 1 ≤ s2.1.length ∧ ∀ t ∈ s2.1, t.length ≤ 30) ∧ SI s2.2) ?_ fun k s8 ⟨ha, hb⟩ => ?_
    · refine ite_wp'.mpr ⟨fun _ => ?_, fun _ => ⟨h8, h9⟩⟩
      simp only [bdo_wp, bind_wp, ret_wp, rd_wp, lfs_wp, lfi_wp, cpu_wp, cio_wp, ms_wp, G.ok_wp, st_wp, iti_wp, bdo_wpF, ite_wpM, ite_wpG, ite_wpF, lenT_wp, wyk_nx, wyk_go, mpo_wp]
      refine cl (bad_name_wp h9) fun b s1 q1 => cl (take1_wp q1.2 (by omega) (by omega)) fun j s2 q2 => ?_
      refine ixM_wp q2.1.1 q2.1.2 ?_
      refine ⟨⟨by simpa using h8.1, by simpa using h8.2.1, fun t ht => ?_⟩, q2.2⟩
      rcases List.mem_or_eq_of_mem_set ht with h | rfl
      · exact h8.2.2 t h
      · exact q1.1
    · simp only [bdo_wp, bind_wp, ret_wp, rd_wp, lfs_wp, lfi_wp, cpu_wp, cio_wp, ms_wp, G.ok_wp, st_wp, iti_wp, bdo_wpF, ite_wpM, ite_wpG, ite_wpF, lenT_wp, wyk_nx, wyk_go, mpo_wp]
      obtain ⟨r, e, hr⟩ := joinT_le (a := tx "~") ha.2.2 ha.1 (by decide +kernel)
      exact lfx_wp e ⟨Nat.le_trans hr (by decide +kernel), hb⟩
  · simp only [bdo_wp, bind_wp, ret_wp, rd_wp, lfs_wp, lfi_wp, cpu_wp, cio_wp, ms_wp, G.ok_wp, st_wp, iti_wp, bdo_wpF, ite_wpM, ite_wpG, ite_wpF, lenT_wp, wyk_nx, wyk_go, mpo_wp]
    exact cl (run_wp h5 hz.1 (by omega)) fun t s2 q2 => ⟨by omega, q2.2⟩
end K

set_option maxHeartbeats 4000000
namespace K
open PySem PySem.Spec PyProof.Rows L2 G
mutual
def nd : D → Nat
  | .non => 1
  | .bl _ => 1
  | .int _ => 1
  | .str _ => 1
  | .tup l => 1 + nds l
  | .lst l => 1 + nds l
def nds : List D → Nat
  | [] => 0
  | x :: xs => nd x + nds xs
end
theorem nd_pos (d : D) : 1 ≤ nd d := by cases d <;> simp [nd] <;> omega
theorem nds_len : ∀ l : List D, l.length ≤ nds l
  | [] => Nat.le_refl _
  | x :: xs => by
    have := nds_len xs
    have := nd_pos x
    show xs.length + 1 ≤ nd x + nds xs
    omega
def nps : List (D × (D × Unit)) → Nat
  | [] => 0
  | x :: xs => nd x.1 + nps xs
theorem nps_app : ∀ a b, nps (a ++ b) = nps a + nps b
  | [], b => by simp [nps]
  | x :: a, b => by simp [nps, nps_app a b]; omega
theorem nps_len : ∀ l, l.length ≤ nps l
  | [] => Nat.le_refl _
  | x :: xs => by
    have := nps_len xs
    have := nd_pos x.1
    show xs.length + 1 ≤ nd x.1 + nps xs
    omega
theorem nps_prs : ∀ l : List D, nps (l.map fun x => (x, x, ())) = nds l
  | [] => rfl
  | x :: xs => by simp [nps, nds, nps_prs xs]
theorem isin_b1 (T : String) (b : Bool) (h : kitB "bool" T = some b) (x : Bool) : D.isin T (.bl x) = some b := h
theorem ms_eq {S α : Type} {f : S → Rs S α} {s : S} : ms f s = f s := rfl
theorem else_ok {S γ o2 o : Type} {ι : o2 → o} {π2 : S → S} {cond : M S Bool} {A B : S → Rs S (Wy γ o2)} {kr : γ → S → Rs S o} {s s' : S} {g : γ} {y : Rs S o} (hc : cond s = .ok false s) (hB : B s = .ok (.nx g) s') (hk : kr g s' = y := by rfl) : bdo (fun s => s) cond (fun _ s => s) (fun k => bdo (fun s => s) (if k = true then A else B) (fun _ s => s) (wyk π2 ι kr)) s = y := by
  rw [bdo_ok hc]
  have e : (@ite (M S (Wy γ o2)) (false = true) _ A B) s = .ok (.nx g) s' := hB
  exact (bdo_ok e).trans hk
theorem if_ok {S Ω o : Type} {π : S → Ω} {cond : M S Bool} {A B : S → Rs Ω o} {s s' : S} (hc : cond s = .ok false s') : bdo π cond (fun _ s => s) (fun k => if k = true then A else B) s = B s' := by
  rw [bdo_ok hc]; rfl
theorem rng_bind {S : Type} {m : M S (Int × Unit)} {s : S} {j : Int} {xs : List Int} (hm : m s = .ok (j, ()) s) (h : rng1 j = some xs) : (m >>= fun z => lf (rng1 z.1)) s = .ok xs s := by
  rw [bind_ok hm]
  show (lf (rng1 j) : M S (List Int)) s = _
  rw [h]; rfl
theorem isw (d : D) : m__law_is_whole d () = .ok (match d with | .int _ => true | _ => false) () := by
  unfold m__law_is_whole
  have h1 : D.isin "int" .non = some false := by decide +kernel
  have h2 : ∀ b, D.isin "int" (.bl b) = some true := fun b => (by decide +kernel : kitB "bool" "int" = some true)
  have h3 : ∀ b, D.isin "int" (.int b) = some true := fun b => (by decide +kernel : kitB "int" "int" = some true)
  have h4 : ∀ b, D.isin "int" (.str b) = some false := fun b => (by decide +kernel : kitB "str" "int" = some false)
  have h5 : ∀ b, D.isin "int" (.tup b) = some false := fun b => (by decide +kernel : kitB "tuple" "int" = some false)
  have h6 : ∀ b, D.isin "int" (.lst b) = some false := fun b => (by decide +kernel : kitB "list" "int" = some false)
  have k2 : ∀ b, D.isin "bool" (.bl b) = some true := fun b => (by decide +kernel : kitB "bool" "bool" = some true)
  have k3 : ∀ b, D.isin "bool" (.int b) = some false := fun b => (by decide +kernel : kitB "int" "bool" = some false)
  cases d <;> simp only [bdo_eq, bdo_eqF, m_bind, ret_ok, rd_ok, rb_ok, lf_s, h1, h2, h3, h4, h5, h6, k2, k3, ite_ap, if_true, if_false, Bool.false_eq_true, Bool.not_true, Bool.not_false]
theorem i_non_bool : D.isin "bool" .non = some false := by decide +kernel
theorem i_non_int : D.isin "int" .non = some false := by decide +kernel
theorem i_non_str : D.isin "str" .non = some false := by decide +kernel
theorem i_non_dict : D.isin "dict" .non = some false := by decide +kernel
theorem i_non_tuple : D.isin "tuple" .non = some false := by decide +kernel
theorem i_non_list : D.isin "list" .non = some false := by decide +kernel
theorem i_bl_bool : ∀ b, D.isin "bool" (.bl b) = some true := fun b => (by decide +kernel : kitB "bool" "bool" = some true)
theorem i_bl_int : ∀ b, D.isin "int" (.bl b) = some true := fun b => (by decide +kernel : kitB "bool" "int" = some true)
theorem i_bl_str : ∀ b, D.isin "str" (.bl b) = some false := fun b => (by decide +kernel : kitB "bool" "str" = some false)
theorem i_bl_dict : ∀ b, D.isin "dict" (.bl b) = some false := fun b => (by decide +kernel : kitB "bool" "dict" = some false)
theorem i_bl_tuple : ∀ b, D.isin "tuple" (.bl b) = some false := fun b => (by decide +kernel : kitB "bool" "tuple" = some false)
theorem i_bl_list : ∀ b, D.isin "list" (.bl b) = some false := fun b => (by decide +kernel : kitB "bool" "list" = some false)
theorem i_int_bool : ∀ b, D.isin "bool" (.int b) = some false := fun b => (by decide +kernel : kitB "int" "bool" = some false)
theorem i_int_int : ∀ b, D.isin "int" (.int b) = some true := fun b => (by decide +kernel : kitB "int" "int" = some true)
theorem i_int_str : ∀ b, D.isin "str" (.int b) = some false := fun b => (by decide +kernel : kitB "int" "str" = some false)
theorem i_int_dict : ∀ b, D.isin "dict" (.int b) = some false := fun b => (by decide +kernel : kitB "int" "dict" = some false)
theorem i_int_tuple : ∀ b, D.isin "tuple" (.int b) = some false := fun b => (by decide +kernel : kitB "int" "tuple" = some false)
theorem i_int_list : ∀ b, D.isin "list" (.int b) = some false := fun b => (by decide +kernel : kitB "int" "list" = some false)
theorem i_str_bool : ∀ b, D.isin "bool" (.str b) = some false := fun b => (by decide +kernel : kitB "str" "bool" = some false)
theorem i_str_int : ∀ b, D.isin "int" (.str b) = some false := fun b => (by decide +kernel : kitB "str" "int" = some false)
theorem i_str_str : ∀ b, D.isin "str" (.str b) = some true := fun b => (by decide +kernel : kitB "str" "str" = some true)
theorem i_str_dict : ∀ b, D.isin "dict" (.str b) = some false := fun b => (by decide +kernel : kitB "str" "dict" = some false)
theorem i_str_tuple : ∀ b, D.isin "tuple" (.str b) = some false := fun b => (by decide +kernel : kitB "str" "tuple" = some false)
theorem i_str_list : ∀ b, D.isin "list" (.str b) = some false := fun b => (by decide +kernel : kitB "str" "list" = some false)
theorem i_tup_bool : ∀ b, D.isin "bool" (.tup b) = some false := fun b => (by decide +kernel : kitB "tuple" "bool" = some false)
theorem i_tup_int : ∀ b, D.isin "int" (.tup b) = some false := fun b => (by decide +kernel : kitB "tuple" "int" = some false)
theorem i_tup_str : ∀ b, D.isin "str" (.tup b) = some false := fun b => (by decide +kernel : kitB "tuple" "str" = some false)
theorem i_tup_dict : ∀ b, D.isin "dict" (.tup b) = some false := fun b => (by decide +kernel : kitB "tuple" "dict" = some false)
theorem i_tup_tuple : ∀ b, D.isin "tuple" (.tup b) = some true := fun b => (by decide +kernel : kitB "tuple" "tuple" = some true)
theorem i_tup_list : ∀ b, D.isin "list" (.tup b) = some false := fun b => (by decide +kernel : kitB "tuple" "list" = some false)
theorem i_lst_bool : ∀ b, D.isin "bool" (.lst b) = some false := fun b => (by decide +kernel : kitB "list" "bool" = some false)
theorem i_lst_int : ∀ b, D.isin "int" (.lst b) = some false := fun b => (by decide +kernel : kitB "list" "int" = some false)
theorem i_lst_str : ∀ b, D.isin "str" (.lst b) = some false := fun b => (by decide +kernel : kitB "list" "str" = some false)
theorem i_lst_dict : ∀ b, D.isin "dict" (.lst b) = some false := fun b => (by decide +kernel : kitB "list" "dict" = some false)
theorem i_lst_tuple : ∀ b, D.isin "tuple" (.lst b) = some false := fun b => (by decide +kernel : kitB "list" "tuple" = some false)
theorem i_lst_list : ∀ b, D.isin "list" (.lst b) = some true := fun b => (by decide +kernel : kitB "list" "list" = some true)
theorem popM_ok {S α : Type} {get : S → List α} {put : S → List α → S} {s : S} {r : List α} {c : α} (e : get s = r ++ [c]) : popM get put s = .ok c (put s r) := by
  have e1 : (get s)[(get s).length - 1]? = some c := by rw [e]; simp
  have e2 : (get s).dropLast = r := by rw [e]; simp
  unfold popM
  rw [e1]
  show Rs.ok c (put s (get s).dropLast) = _
  rw [e2]
theorem push_ok {l : List D} {r : List (D × (D × Unit))} {f : Unit → Int → (List (D × (D × Unit)) × Unit) → Rs (List (D × (D × Unit)) × Unit) Unit} (hf : ∀ (x : Int) (i : Nat) (d : D) (st : List (D × (D × Unit))), x = i → l[i]? = some d → st.length < SZ → f () x (st, ()) = .ok () (st ++ [(d, d, ())], ())) (hz : r.length + l.length ≤ SZ) : forN f (rng 0 l.length) () (r, ()) = .ok () (r ++ l.map (fun x => (x, x, ())), ()) := by
  have key : ∀ (n : Nat), n ≤ l.length → forN f ((List.range' (l.length - n) n).map fun (k : Nat) => (k : Int)) () (r ++ (l.take (l.length - n)).map (fun x => (x, x, ())), ()) = .ok () (r ++ l.map (fun x => (x, x, ())), ()) := by
    intro n
    induction n with
    | zero => intro _; simp [forN]
    | succ n ih =>
      intro hn
      have h1 : l.length - (n + 1) < l.length := by omega
      have h2 : l.length - (n + 1) + 1 = l.length - n := by omega
      rw [List.range'_succ, List.map_cons]
      unfold forN
      rw [hf _ (l.length - (n + 1)) l[l.length - (n + 1)] _ rfl (by simp [h1]) (by rw [List.length_append, List.length_map, List.length_take]; omega)]
      have e : r ++ (l.take (l.length - (n + 1))).map (fun x => (x, x, ())) ++ [(l[l.length - (n + 1)], l[l.length - (n + 1)], ())] = r ++ (l.take (l.length - n)).map (fun x => (x, x, ())) := by
        have ht : l.take (l.length - (n + 1) + 1) = l.take (l.length - (n + 1)) ++ [l[l.length - (n + 1)]] := by rw [List.take_add_one]; simp [h1]
        rw [← h2, ht, List.map_append, ← List.append_assoc]; rfl
      show forN f _ () _ = _
      rw [e, h2]
      exact ih (by omega)
  have := key l.length (Nat.le_refl _)
  rw [← this]
  congr 1
  · unfold rng
    simp [List.range_eq_range']
  · simp
theorem same_wp {d : D} {R : Exn → Unit → Prop} (hd : nd d < 1000000) : (m__law_same d d ()).wp (fun r _ => r = true) R := by
  unfold m__law_same
  have hN : (1000000 : Nat) ≤ SZ := by decide
  generalize (1000000 : Nat) = N at hd hN ⊢
  refine bdo_cut (I := fun _ s => s = ([(d, d, ())], ())) (by simp only [bdo_wp, bind_wp, ret_wp, rd_wp, lfs_wp, lfi_wp, cpu_wp, cio_wp, ms_wp, G.ok_wp, st_wp, iti_wp, bdo_wpF, ite_wpM, ite_wpG, ite_wpF, lenT_wp, wyk_nx, wyk_go, mpo_wp]) fun a s e => ?_
  subst e
  refine bdo_cut (I := fun r _ => r = .nx ()) ?_ fun r s e => ?_
  · refine whL_wp (I := fun _ s => (∀ p ∈ s.1, p.2.1 = p.1) ∧ nps s.1 < N) (μ := fun _ s => nps s.1) ?_ ⟨by simp, by simpa [nps] using hd⟩ (by simpa [nps] using hd)
    intro g s ⟨hp, hz⟩
    simp only [bind_wp, rd_wp, ret_wp, lfs_wp]
    by_cases hl : s.1.length = 0
    · simp [hl]
    simp only [show decide ((0 : Int) < (s.1.length : Int)) = true by rw [decide_eq_true_eq]; omega, if_true]
    obtain ⟨st, ⟨⟩⟩ := s
    obtain ⟨r, c, rfl⟩ : ∃ r c, st = r ++ [c] := ⟨st.dropLast, st.getLast (by intro z; subst z; exact hl rfl), (List.dropLast_concat_getLast _).symm⟩
    obtain ⟨x, y, ⟨⟩⟩ := c
    have hy : y = x := hp (x, y, ()) (by simp)
    subst hy
    have hr : ∀ p ∈ r, p.2.1 = p.1 := fun p h => hp p (by simp [h])
    have hn : nps r + nd y < N := by have := hz; simp only [nps_app, nps] at this; omega
    have hrl := nps_len r
    have fin : ∀ l : List D, nds l + 1 ≤ nd y → (∀ p ∈ r ++ l.map (fun x => (x, x, ())), p.2.1 = p.1) ∧ nps (r ++ l.map (fun x => (x, x, ()))) < N := fun l h => ⟨fun p hp => by
      rcases List.mem_append.mp hp with h | h
      · exact hr p h
      · obtain ⟨x, _, rfl⟩ := List.mem_map.mp h; rfl, by rw [nps_app, nps_prs]; omega⟩
    have fin2 : ∀ l : List D, nds l + 1 ≤ nd y → nps (r ++ l.map (fun x => (x, x, ()))) < nps (r ++ [(y, y, ())]) := fun l h => by rw [nps_app, nps_prs, nps_app]; simp only [nps]; omega
    have hpop := popM_ok (get := fun s : List (D × (D × Unit)) × Unit => s.1) (put := fun s l => (l, s.2)) (s := (r ++ [(y, y, ())], ())) (r := r) (c := (y, y, ())) rfl
    cases y with
    | tup l =>
      have hb := nds_len l
      have hd1 : nd (.tup l) = 1 + nds l := by simp [nd]
      have hz2 : r.length + l.length ≤ SZ := by omega
      have hb1 : (l.length : Int) < 4611686018427387904 := by
        have : SZ ≤ 16777216 := Nat.le_refl _
        omega
      refine wp_of (a := .nx ()) (s := (r ++ l.map (fun x => (x, x, ())), ())) ?_ ⟨fin l (by omega), fin2 l (by omega)⟩
      refine (bdo_ok hpop).trans ?_
      refine (bdo_ok (a := D.tup l) (s' := (r, ())) rfl).trans ?_
      refine (bdo_ok (a := D.tup l) (s' := (r, ())) rfl).trans ?_
      refine else_ok (g := ()) (s' := (r ++ l.map (fun x => (x, x, ())), ())) (by simp only [m_bind, ret_ok, rd_ok, rb_ok, itM, itF, lf_s, if_true, if_false, Bool.false_eq_true, D.isN, D.its, Option.map_some, Option.bind_some, beq_self_eq_true, Bool.not_true, Bool.not_false, decide_true, i_tup_bool, i_tup_int, i_tup_str, i_tup_dict, i_tup_tuple, i_tup_list]) (else_ok (g := ()) (s' := (r ++ l.map (fun x => (x, x, ())), ())) (by simp only [m_bind, ret_ok, rd_ok, rb_ok, itM, itF, lf_s, if_true, if_false, Bool.false_eq_true, D.isN, D.its, Option.map_some, Option.bind_some, beq_self_eq_true, Bool.not_true, Bool.not_false, decide_true, i_tup_bool, i_tup_int, i_tup_str, i_tup_dict, i_tup_tuple, i_tup_list]) (else_ok (g := ()) (s' := (r ++ l.map (fun x => (x, x, ())), ())) (by simp only [m_bind, ret_ok, rd_ok, rb_ok, itM, itF, lf_s, if_true, if_false, Bool.false_eq_true, D.isN, D.its, Option.map_some, Option.bind_some, beq_self_eq_true, Bool.not_true, Bool.not_false, decide_true, i_tup_bool, i_tup_int, i_tup_str, i_tup_dict, i_tup_tuple, i_tup_list]) (else_ok (g := ()) (s' := (r ++ l.map (fun x => (x, x, ())), ())) (by simp only [m_bind, ret_ok, rd_ok, rb_ok, itM, itF, lf_s, if_true, if_false, Bool.false_eq_true, D.isN, D.its, Option.map_some, Option.bind_some, beq_self_eq_true, Bool.not_true, Bool.not_false, decide_true, i_tup_bool, i_tup_int, i_tup_str, i_tup_dict, i_tup_tuple, i_tup_list]) ?_)))
      refine (if_ok (s' := (r, ())) (by simp only [m_bind, ret_ok, rd_ok, rb_ok, itM, itF, lf_s, if_true, if_false, Bool.false_eq_true, D.isN, D.its, Option.map_some, Option.bind_some, beq_self_eq_true, Bool.not_true, Bool.not_false, decide_true, i_tup_bool, i_tup_int, i_tup_str, i_tup_dict, i_tup_tuple, i_tup_list])).trans ?_
      refine (if_ok (s' := (r, ())) (by simp only [m_bind, ret_ok, rd_ok, rb_ok, itM, itF, lf_s, if_true, if_false, Bool.false_eq_true, D.isN, D.its, Option.map_some, Option.bind_some, beq_self_eq_true, Bool.not_true, Bool.not_false, decide_true, i_tup_bool, i_tup_int, i_tup_str, i_tup_dict, i_tup_tuple, i_tup_list])).trans ?_
      refine (bdo_ok (a := rng 0 l.length) (s' := (r, ())) (rng_bind (by simp only [m_bind, ret_ok, rd_ok, rb_ok, itM, itF, lf_s, if_true, if_false, Bool.false_eq_true, D.isN, D.its, Option.map_some, Option.bind_some, beq_self_eq_true, Bool.not_true, Bool.not_false, decide_true, i_tup_bool, i_tup_int, i_tup_str, i_tup_dict, i_tup_tuple, i_tup_list]) (rng1_ok hb1 (Int.natCast_nonneg l.length)))).trans ?_
      refine (bdo_ok (push_ok (l := l) (r := r) ?_ hz2)).trans rfl
      intro x i d st hx hd hs
      subst hx
      refine (bdo_ok (a := (d, d, ())) (s' := (st, ())) ?_).trans rfl
      simp only [m_bind, ret_ok, rd_ok, rb_ok, itM, itF, lf_s, if_true, if_false, Bool.false_eq_true, D.isN, D.its, Option.map_some, Option.bind_some, beq_self_eq_true, Bool.not_true, Bool.not_false, decide_true, i_tup_bool, i_tup_int, i_tup_str, i_tup_dict, i_tup_tuple, i_tup_list, L2.atI_nat hd, ms_eq, if_pos hs]
    | lst l =>
      have hb := nds_len l
      have hd1 : nd (.lst l) = 1 + nds l := by simp [nd]
      have hz2 : r.length + l.length ≤ SZ := by omega
      have hb1 : (l.length : Int) < 4611686018427387904 := by
        have : SZ ≤ 16777216 := Nat.le_refl _
        omega
      refine wp_of (a := .nx ()) (s := (r ++ l.map (fun x => (x, x, ())), ())) ?_ ⟨fin l (by omega), fin2 l (by omega)⟩
      refine (bdo_ok hpop).trans ?_
      refine (bdo_ok (a := D.lst l) (s' := (r, ())) rfl).trans ?_
      refine (bdo_ok (a := D.lst l) (s' := (r, ())) rfl).trans ?_
      refine else_ok (g := ()) (s' := (r ++ l.map (fun x => (x, x, ())), ())) (by simp only [m_bind, ret_ok, rd_ok, rb_ok, itM, itF, lf_s, if_true, if_false, Bool.false_eq_true, D.isN, D.its, Option.map_some, Option.bind_some, beq_self_eq_true, Bool.not_true, Bool.not_false, decide_true, i_lst_bool, i_lst_int, i_lst_str, i_lst_dict, i_lst_tuple, i_lst_list]) (else_ok (g := ()) (s' := (r ++ l.map (fun x => (x, x, ())), ())) (by simp only [m_bind, ret_ok, rd_ok, rb_ok, itM, itF, lf_s, if_true, if_false, Bool.false_eq_true, D.isN, D.its, Option.map_some, Option.bind_some, beq_self_eq_true, Bool.not_true, Bool.not_false, decide_true, i_lst_bool, i_lst_int, i_lst_str, i_lst_dict, i_lst_tuple, i_lst_list]) (else_ok (g := ()) (s' := (r ++ l.map (fun x => (x, x, ())), ())) (by simp only [m_bind, ret_ok, rd_ok, rb_ok, itM, itF, lf_s, if_true, if_false, Bool.false_eq_true, D.isN, D.its, Option.map_some, Option.bind_some, beq_self_eq_true, Bool.not_true, Bool.not_false, decide_true, i_lst_bool, i_lst_int, i_lst_str, i_lst_dict, i_lst_tuple, i_lst_list]) (else_ok (g := ()) (s' := (r ++ l.map (fun x => (x, x, ())), ())) (by simp only [m_bind, ret_ok, rd_ok, rb_ok, itM, itF, lf_s, if_true, if_false, Bool.false_eq_true, D.isN, D.its, Option.map_some, Option.bind_some, beq_self_eq_true, Bool.not_true, Bool.not_false, decide_true, i_lst_bool, i_lst_int, i_lst_str, i_lst_dict, i_lst_tuple, i_lst_list]) ?_)))
      refine (if_ok (s' := (r, ())) (by simp only [m_bind, ret_ok, rd_ok, rb_ok, itM, itF, lf_s, if_true, if_false, Bool.false_eq_true, D.isN, D.its, Option.map_some, Option.bind_some, beq_self_eq_true, Bool.not_true, Bool.not_false, decide_true, i_lst_bool, i_lst_int, i_lst_str, i_lst_dict, i_lst_tuple, i_lst_list])).trans ?_
      refine (if_ok (s' := (r, ())) (by simp only [m_bind, ret_ok, rd_ok, rb_ok, itM, itF, lf_s, if_true, if_false, Bool.false_eq_true, D.isN, D.its, Option.map_some, Option.bind_some, beq_self_eq_true, Bool.not_true, Bool.not_false, decide_true, i_lst_bool, i_lst_int, i_lst_str, i_lst_dict, i_lst_tuple, i_lst_list])).trans ?_
      refine (bdo_ok (a := rng 0 l.length) (s' := (r, ())) (rng_bind (by simp only [m_bind, ret_ok, rd_ok, rb_ok, itM, itF, lf_s, if_true, if_false, Bool.false_eq_true, D.isN, D.its, Option.map_some, Option.bind_some, beq_self_eq_true, Bool.not_true, Bool.not_false, decide_true, i_lst_bool, i_lst_int, i_lst_str, i_lst_dict, i_lst_tuple, i_lst_list]) (rng1_ok hb1 (Int.natCast_nonneg l.length)))).trans ?_
      refine (bdo_ok (push_ok (l := l) (r := r) ?_ hz2)).trans rfl
      intro x i d st hx hd hs
      subst hx
      refine (bdo_ok (a := (d, d, ())) (s' := (st, ())) ?_).trans rfl
      simp only [m_bind, ret_ok, rd_ok, rb_ok, itM, itF, lf_s, if_true, if_false, Bool.false_eq_true, D.isN, D.its, Option.map_some, Option.bind_some, beq_self_eq_true, Bool.not_true, Bool.not_false, decide_true, i_lst_bool, i_lst_int, i_lst_str, i_lst_dict, i_lst_tuple, i_lst_list, L2.atI_nat hd, ms_eq, if_pos hs]
    | _ =>
      refine wp_of (a := .nx ()) (s := (r ++ ([] : List D).map (fun x => (x, x, ())), ())) ?_ ⟨fin [] (by simp [nd, nds]), fin2 [] (by simp [nd, nds])⟩
      refine (bdo_ok hpop).trans ?_
      simp -implicitDefEqProofs only [bdo_eq, bdo_eqF, m_bind, ret_ok, rd_ok, rb_ok, itM, itF, lf_s, cpu_eq, put_ok, if_true, if_false, Bool.false_eq_true, D.isN, D.its, D.ne, Option.map_some, Option.bind_some, wyk, i_non_bool, i_non_int, i_non_str, i_non_dict, i_non_tuple, i_non_list, i_bl_bool, i_bl_int, i_bl_str, i_bl_dict, i_bl_tuple, i_bl_list, i_int_bool, i_int_int, i_int_str, i_int_dict, i_int_tuple, i_int_list, i_str_bool, i_str_int, i_str_str, i_str_dict, i_str_tuple, i_str_list, i_tup_bool, i_tup_int, i_tup_str, i_tup_dict, i_tup_tuple, i_tup_list, i_lst_bool, i_lst_int, i_lst_str, i_lst_dict, i_lst_tuple, i_lst_list, isw, Bool.not_true, Bool.not_false, beq_self_eq_true, decide_true, List.map_nil, List.append_nil]
  · subst e
    simp only [bdo_wp, bind_wp, ret_wp, rd_wp, lfs_wp, lfi_wp, cpu_wp, cio_wp, ms_wp, G.ok_wp, st_wp, iti_wp, bdo_wpF, ite_wpM, ite_wpG, ite_wpF, lenT_wp, wyk_nx, wyk_go, mpo_wp]
end K

set_option maxHeartbeats 4000000
namespace K
open PySem PySem.Spec PyProof.Rows L2 G
structure TL5 (l : List Tx) (n : Nat) : Prop where
  it : ∀ t ∈ l, t.length ≤ 5000
  pos : 0 < l.length
  le : l.length ≤ n
theorem TL5.push {l : List Tx} {n m : Nat} {t : Tx} (h : TL5 l n) (ht : t.length ≤ 5000) (hm : n + 1 ≤ m) : TL5 (l ++ [t]) m :=
  ⟨fun x hx => by
    rcases List.mem_append.mp hx with h1 | h1
    · exact h.it x h1
    · rw [List.mem_singleton.mp h1]; exact ht, by simp, by have := h.le; simp; omega⟩
theorem TL5.lt {l : List Tx} {n : Nat} (h : TL5 l n) (hn : n ≤ 10000) : l.length < SZ := Nat.lt_of_le_of_lt (Nat.le_trans h.le hn) (by decide)
theorem many_wp {s : Store} {R : Exn → Store → Prop} (hs : SI s) : (m__law_many_texts s).wp (fun r s' => TL5 r 1000 ∧ SI s') R := by
  unfold m__law_many_texts
  refine bdo_cut (I := fun _ s2 => TL5 s2.1 1 ∧ SI s2.2) (by
    simp only [bdo_wp, bind_wp, ret_wp, rd_wp, lfs_wp, lfi_wp, cpu_wp, cio_wp, ms_wp, G.ok_wp, st_wp, iti_wp, bdo_wpF, ite_wpM, ite_wpG, ite_wpF, lenT_wp, wyk_nx, wyk_go, mpo_wp]
    exact ⟨⟨fun t ht => by rw [List.mem_singleton.mp ht]; decide +kernel, by simp, by simp⟩, hs⟩) fun _ s1 ⟨t1, h1⟩ => ?_
  refine bdo_cut (I := fun xs s2 => (xs.length = 7 ∧ ∀ x ∈ xs, 0 ≤ x ∧ x ≤ 41) ∧ TL5 s2.1 1 ∧ SI s2.2) (by
    simp only [bdo_wp, bind_wp, ret_wp, rd_wp, lfs_wp, lfi_wp, cpu_wp, cio_wp, ms_wp, G.ok_wp, st_wp, iti_wp, bdo_wpF, ite_wpM, ite_wpG, ite_wpF, lenT_wp, wyk_nx, wyk_go, mpo_wp]
    exact ⟨⟨by simp, by intro x hx; simp only [List.mem_cons, List.not_mem_nil, or_false] at hx; omega⟩, t1, h1⟩) fun xs s2 ⟨hx, t2, h2⟩ => ?_
  refine bdo_cut (I := fun _ s2 => TL5 s2.1 10 ∧ SI s2.2) (cl (forN_wp (I := fun a c _ s => a ++ c = xs ∧ TL5 s.1 (1 + a.length) ∧ SI s.2) (xs := []) ⟨rfl, t2, h2⟩ fun a x c g s ⟨e, t, h⟩ => ?_) fun g s ⟨e, t, h⟩ => ⟨⟨t.it, t.pos, by have := t.le; rw [← hx.1, ← e] at *; simp at *; omega⟩, h⟩) fun _ s3 ⟨t3, h3⟩ => ?_
  · have hx1 := hx.2 x (by rw [← e]; simp)
    have hal : a.length ≤ 7 := by rw [← hx.1, ← e]; simp
    simp only [bdo_wp, bind_wp, ret_wp, rd_wp, lfs_wp, lfi_wp, cpu_wp, cio_wp, ms_wp, G.ok_wp, st_wp, iti_wp, bdo_wpF, ite_wpM, ite_wpG, ite_wpF, lenT_wp, wyk_nx, wyk_go, mpo_wp]
    refine cl (run_wp h hx1.1 (by omega)) fun r s1 q1 => ⟨fun _ => ⟨by rw [← e]; simp, t.push (by omega) (by simp; omega), q1.2⟩, fun z => z (t.lt (by omega))⟩
  refine bdo_cut (I := fun _ s2 => TL5 s2.1 11 ∧ SI s2.2) (by
    simp only [bdo_wp, bind_wp, ret_wp, rd_wp, lfs_wp, lfi_wp, cpu_wp, cio_wp, ms_wp, G.ok_wp, st_wp, iti_wp, bdo_wpF, ite_wpM, ite_wpG, ite_wpF, lenT_wp, wyk_nx, wyk_go, mpo_wp]
    refine cl (take1_wp h3 (by decide) (by decide)) fun r s4 q1 => ?_
    obtain ⟨t, e, ht⟩ := strI_dig q1.1.1 q1.1.2
    refine lfx_wp e (cl (pick_wp q1.2 (by simp) (by simp)) fun z s5 q2 => ?_)
    have hz : 0 ≤ z ∧ z ≤ 39 := by have := q2.1; simp only [List.mem_cons, List.not_mem_nil, or_false] at this; omega
    exact cl (run_wp q2.2 hz.1 (by omega)) fun u s6 q3 => lfx_wp (catT_ok (szk (by omega))) ⟨fun _ => ⟨t3.push (by simp; omega) (by omega), q3.2⟩, fun z => z (t3.lt (by omega))⟩) fun _ s4 ⟨t4, h4⟩ => ?_
  refine bdo_cut (I := fun a s2 => a.length ≤ 100 ∧ TL5 s2.1 11 ∧ SI s2.2) ⟨by show (tx " !\"#$&'()*+,-./0123456789:;<=>?@ABCDEFGHIJKLMNOPQRSTUVWXYZ[\\]^_`abcdefghijklmnopqrstuvwxyz{|}~").length ≤ 100; decide +kernel, t4, h4⟩ fun sg s5 ⟨hsg, t5, h5⟩ => ?_
  refine bdo_cut (I := fun a s2 => a.length ≤ 11 ∧ TL5 s2.1 11 ∧ SI s2.2) (by
    simp only [bdo_wp, bind_wp, ret_wp, rd_wp, lfs_wp, lfi_wp, cpu_wp, cio_wp, ms_wp, G.ok_wp, st_wp, iti_wp, bdo_wpF, ite_wpM, ite_wpG, ite_wpF, lenT_wp, wyk_nx, wyk_go, mpo_wp]
    refine cl (edge_wp h5 (by decide) (by decide)) fun r s1 q1 => ?_
    exact cl (run_wp q1.2 (by omega) (by omega)) fun t s2 q2 => ⟨by omega, t5, q2.2⟩) fun bd s6 ⟨hbd, t6, h6⟩ => ?_
  refine bdo_cut (I := fun a s2 => TL5 s2.1 11 ∧ SI s2.2) (by
    simp only [bdo_wp, bind_wp, ret_wp, rd_wp, lfs_wp, lfi_wp, cpu_wp, cio_wp, ms_wp, G.ok_wp, st_wp, iti_wp, bdo_wpF, ite_wpM, ite_wpG, ite_wpF, lenT_wp, wyk_nx, wyk_go, mpo_wp]
    exact ⟨szk (by omega), cl (take1_wp h6 (by omega) (by omega)) fun r s1 q => ⟨t6, q.2⟩⟩) fun sp s7 ⟨t7, h7⟩ => ?_
  refine bdo_cut (I := fun xs s2 => (xs.length ≤ 100 ∧ ∀ x ∈ xs, x.length ≤ 1) ∧ TL5 s2.1 11 ∧ SI s2.2) (by
    simp only [bdo_wp, bind_wp, ret_wp, rd_wp, lfs_wp, lfi_wp, cpu_wp, cio_wp, ms_wp, G.ok_wp, st_wp, iti_wp, bdo_wpF, ite_wpM, ite_wpG, ite_wpF, lenT_wp, wyk_nx, wyk_go, mpo_wp]
    exact ⟨szk (by omega), ⟨by rw [List.length_map]; exact hsg, fun x hx => by obtain ⟨c, _, rfl⟩ := List.mem_map.mp hx; exact Nat.le_refl _⟩, t7, h7⟩) fun xs s8 ⟨hxs, t8, h8⟩ => ?_
  refine bdo_cut (I := fun _ s2 => TL5 s2.1 111 ∧ SI s2.2) (cl (forN_wp (I := fun a c _ s => a ++ c = xs ∧ TL5 s.1 (11 + a.length) ∧ SI s.2) (xs := []) ⟨rfl, t8, h8⟩ fun a x c g s ⟨e, t, h⟩ => ?_) fun g s ⟨e, t, h⟩ => ⟨⟨t.it, t.pos, by have := t.le; have h9 := hxs.1; rw [← e] at h9; simp at *; omega⟩, h⟩) fun _ s9 ⟨t9, h9⟩ => ?_
  · have hx1 := hxs.2 x (by rw [← e]; simp)
    have hal : a.length ≤ 100 := by have h9 := hxs.1; rw [← e] at h9; simp at h9; omega
    obtain ⟨y, ey, hy⟩ := cutT_le (a := bd) (lo := none) (hi := some sp) (szk (by omega))
    obtain ⟨z, ez, hz⟩ := cutT_le (a := bd) (lo := some sp) (hi := none) (szk (by omega))
    simp only [bdo_wp, bind_wp, ret_wp, rd_wp, lfs_wp, lfi_wp, cpu_wp, cio_wp, ms_wp, G.ok_wp, st_wp, iti_wp, bdo_wpF, ite_wpM, ite_wpG, ite_wpF, lenT_wp, wyk_nx, wyk_go, mpo_wp]
    exact lfx_wp ey (lfx_wp (catT_ok (szk (by omega))) (lfx_wp ez (lfx_wp (catT_ok (szk (by simp; omega))) ⟨fun _ => ⟨by rw [← e]; simp, t.push (by simp; omega) (by simp; omega), h⟩, fun z => z (t.lt (by omega))⟩)))
  refine bdo_cut (I := fun xs s2 => xs = [1, 2, 3, 4, 5] ∧ TL5 s2.1 111 ∧ SI s2.2) (by simp only [bdo_wp, bind_wp, ret_wp, rd_wp, lfs_wp, lfi_wp, cpu_wp, cio_wp, ms_wp, G.ok_wp, st_wp, iti_wp, bdo_wpF, ite_wpM, ite_wpG, ite_wpF, lenT_wp, wyk_nx, wyk_go, mpo_wp]; exact ⟨by trivial, t9, h9⟩) fun ws s10 ⟨ew, t10, h10⟩ => ?_
  refine bdo_cut (I := fun g s2 => (∃ y, g.1 = some y ∧ y.length = 5 ∧ ∀ t ∈ y, t.length ≤ 30) ∧ TL5 s2.1 116 ∧ SI s2.2) (cl (forN_wp (I := fun a c g s => a ++ c = ws ∧ TL5 s.1 (111 + a.length) ∧ SI s.2 ∧ ∀ x, a.getLast? = some x → ∃ y, g.1 = some y ∧ (y.length : Int) = x ∧ ∀ t ∈ y, t.length ≤ 30) (xs := []) ⟨rfl, t10, h10, by simp⟩ fun a x c g s ⟨e, t, h, _⟩ => ?_) fun g s ⟨e, t, h, hg⟩ => ?_) fun g s11 ⟨⟨y, ey, ly, hy⟩, t11, h11⟩ => ?_
  · have hx : 0 ≤ x ∧ x ≤ 5 := by
      have : x ∈ ws := by rw [← e]; simp
      rw [ew] at this
      simp only [List.mem_cons, List.not_mem_nil, or_false] at this
      omega
    have hal : a.length ≤ 4 := by
      have : ws.length = 5 := by rw [ew]; rfl
      rw [← e] at this; simp at this; omega
    refine bdo_cut (I := fun _ s2 => ((s2.1.length : Int) = x ∧ ∀ t ∈ s2.1, t.length ≤ 30) ∧ s2.2.1 = s.1 ∧ SI s2.2.2) ?_ fun p s1 ⟨⟨hp, hp2⟩, e1, hs1⟩ => ?_
    · simp only [bdo_wp, bind_wp, ret_wp, rd_wp, lfs_wp, lfi_wp, cpu_wp, cio_wp, ms_wp, G.ok_wp, st_wp, iti_wp, bdo_wpF, ite_wpM, ite_wpG, ite_wpF, lenT_wp, wyk_nx, wyk_go, mpo_wp]
      refine lfx_wp (rng1_ok (by omega) hx.1) ?_
      refine cl (mpM_wp (I := fun s2 => s2.1 = s.1 ∧ SI s2.2) (p := fun _ t => t.length ≤ 30) (by rw [rng_len]; exact szk (by omega)) ⟨rfl, h⟩ fun x _ s3 hs3 => ?_) fun ys s2 q2 => ?_
      · simp only [bdo_wp, bind_wp, ret_wp, rd_wp, lfs_wp, lfi_wp, cpu_wp, cio_wp, ms_wp, G.ok_wp, st_wp, iti_wp, bdo_wpF, ite_wpM, ite_wpG, ite_wpF, lenT_wp, wyk_nx, wyk_go, mpo_wp]
        refine cl (edge_wp hs3.2 (by decide) (by decide)) fun r s1 q1 => ?_
        exact cl (run_wp q1.2 (by omega) (by omega)) fun t s2 q2 => ⟨by omega, hs3.1, q2.2⟩
      · have := Paired.length q2.1
        rw [rng_len] at this
        exact ⟨⟨by show (ys.length : Int) = x; omega, Paired.all (q := fun t : Tx => t.length ≤ 30) (fun _ _ h => h) q2.1⟩, q2.2.1, q2.2.2⟩
    · simp only [bdo_wp, bind_wp, ret_wp, rd_wp, lfs_wp, lfi_wp, cpu_wp, cio_wp, ms_wp, G.ok_wp, st_wp, iti_wp, bdo_wpF, ite_wpM, ite_wpG, ite_wpF, lenT_wp, wyk_nx, wyk_go, mpo_wp]
      obtain ⟨r, er, hr⟩ := joinT_le (a := tx "~") (n := 5) hp2 (by omega) (by decide +kernel)
      have hr2 : r.length ≤ 5000 := Nat.le_trans hr (by decide +kernel)
      refine lfx_wp er ⟨fun _ => ?_, fun z => z (by rw [e1]; exact t.lt (by omega))⟩
      refine ⟨by rw [← e]; simp, by rw [e1]; exact t.push hr2 (by simp; omega), hs1, fun x' hx' => ⟨s1.1, rfl, ?_, hp2⟩⟩
      rw [List.getLast?_concat] at hx'
      rw [hp]; exact Option.some.inj hx'
  · obtain ⟨y, e1, e2, e3⟩ := hg 5 (by rw [List.nil_append, ew]; rfl)
    refine ⟨⟨y, e1, by omega, e3⟩, ⟨t.it, t.pos, ?_⟩, h⟩
    have := t.le
    rw [List.nil_append, ew] at this
    exact this
  rw [ey]
  refine sureR_wp ?_
  refine bdo_cut (I := fun _ s2 => (s2.1.length = 5 ∧ ∀ t ∈ s2.1, t.length ≤ 30) ∧ TL5 s2.2.1 116 ∧ SI s2.2.2) ?_ fun _ s12 ⟨⟨l12, p12⟩, t12, h12⟩ => ?_
  · simp only [bdo_wp, bind_wp, ret_wp, rd_wp, lfs_wp, lfi_wp, cpu_wp, cio_wp, ms_wp, G.ok_wp, st_wp, iti_wp, bdo_wpF, ite_wpM, ite_wpG, ite_wpF, lenT_wp, wyk_nx, wyk_go, mpo_wp]
    refine cl (bad_name_wp h11) fun b s1 q1 => cl (take1_wp q1.2 (by decide) (by decide)) fun j s2 q2 => ?_
    refine ixM_wp q2.1.1 (by show j < (y.length : Int); omega) ?_
    refine ⟨⟨by simpa using ly, fun t ht => ?_⟩, t11, q2.2⟩
    rcases List.mem_or_eq_of_mem_set ht with h | rfl
    · exact hy t h
    · exact q1.1
  refine bdo_cut (I := fun _ s2 => (s2.1.length = 5 ∧ ∀ t ∈ s2.1, t.length ≤ 30) ∧ TL5 s2.2.1 117 ∧ SI s2.2.2) ?_ fun _ s13 ⟨⟨l13, p13⟩, t13, h13⟩ => ?_
  · simp only [bdo_wp, bind_wp, ret_wp, rd_wp, lfs_wp, lfi_wp, cpu_wp, cio_wp, ms_wp, G.ok_wp, st_wp, iti_wp, bdo_wpF, ite_wpM, ite_wpG, ite_wpF, lenT_wp, wyk_nx, wyk_go, mpo_wp]
    obtain ⟨r, er, hr⟩ := joinT_le (a := tx "~") (n := 5) p12 (by omega) (by decide +kernel)
    have hr2 : r.length ≤ 5000 := Nat.le_trans hr (by decide +kernel)
    exact lfx_wp er ⟨fun _ => ⟨⟨l12, p12⟩, t12.push hr2 (by omega), h12⟩, fun z => z (t12.lt (by omega))⟩
  refine bdo_cut (I := fun _ s2 => TL5 s2.2.1 118 ∧ SI s2.2.2) ?_ fun _ s14 ⟨t14, h14⟩ => ?_
  · simp only [bdo_wp, bind_wp, ret_wp, rd_wp, lfs_wp, lfi_wp, cpu_wp, cio_wp, ms_wp, G.ok_wp, st_wp, iti_wp, bdo_wpF, ite_wpM, ite_wpG, ite_wpF, lenT_wp, wyk_nx, wyk_go, mpo_wp]
    obtain ⟨r, er, hr⟩ := joinT_le (a := tx "~") (n := 5) (B := 30) (ys := (s13.1.drop (HT.sIx s13.1.length 0 none)).take (HT.sIx s13.1.length s13.1.length (some 4) - HT.sIx s13.1.length 0 none)) (fun t ht => p13 t (List.mem_of_mem_drop (List.mem_of_mem_take ht))) (by rw [List.length_take, List.length_drop]; omega) (by decide +kernel)
    have hr2 : r.length ≤ 5000 := Nat.le_trans hr (by decide +kernel)
    exact lfx_wp er ⟨fun _ => ⟨t13.push hr2 (by omega), h13⟩, fun z => z (t13.lt (by omega))⟩
  refine bdo_cut (I := fun _ s2 => TL5 s2.1 122 ∧ SI s2.2.2.2) ?_ fun _ s15 ⟨t15, h15⟩ => ?_
  · simp only [bdo_wp, bind_wp, ret_wp, rd_wp, lfs_wp, lfi_wp, cpu_wp, cio_wp, ms_wp, G.ok_wp, st_wp, iti_wp, bdo_wpF, ite_wpM, ite_wpG, ite_wpF, lenT_wp, wyk_nx, wyk_go, mpo_wp]
    refine lfx_wp (rng1_ok (by decide) (by decide)) ?_
    refine cl (mpM_wp (I := fun s2 => s2.2.1 = s14.2.1 ∧ SI s2.2.2) (p := fun _ t => t.length ≤ 200) (by rw [rng_len]; exact szk (by decide)) ⟨rfl, h14⟩ fun x _ s3 hs3 => ?_) fun ys s2 q2 => ?_
    · simp only [bdo_wp, bind_wp, ret_wp, rd_wp, lfs_wp, lfi_wp, cpu_wp, cio_wp, ms_wp, G.ok_wp, st_wp, iti_wp, bdo_wpF, ite_wpM, ite_wpG, ite_wpF, lenT_wp, wyk_nx, wyk_go, mpo_wp]
      exact cl (near_name_wp hs3.2) fun t s2 q2 => ⟨q2.1, hs3.1, q2.2⟩
    · have hl := Paired.length q2.1
      rw [rng_len] at hl
      have hl : ys.length = 4 := hl.symm
      have ha := Paired.all (q := fun t : Tx => t.length ≤ 200) (fun _ _ h => h) q2.1
      have e1 := q2.2.1
      refine lfx_wp (a := s14.2.1 ++ ys) ?_ ⟨⟨fun t ht => ?_, by rw [List.length_append]; omega, by rw [List.length_append]; have := t14.le; omega⟩, q2.2.2⟩
      · rw [e1]; unfold catL; rw [if_pos (szk (by have := t14.le; omega))]
      · rcases List.mem_append.mp ht with h | h
        · exact t14.it t h
        · have := ha t h; omega
  refine bdo_cut (I := fun _ s2 => TL5 s2.1 122 ∧ SI s2.2.2.2) ?_ fun k s16 ⟨t16, h16⟩ => ?_
  · simp only [bdo_wp, bind_wp, ret_wp, rd_wp, lfs_wp, lfi_wp, cpu_wp, cio_wp, ms_wp, G.ok_wp, st_wp, iti_wp, bdo_wpF, ite_wpM, ite_wpG, ite_wpF, lenT_wp, wyk_nx, wyk_go, mpo_wp]
    exact cl (take1_wp h15 (by decide) (by decide)) fun r s1 q => ⟨t15, q.2⟩
  refine bdo_cut (I := fun _ s2 => TL5 s2.1 123 ∧ SI s2.2.2.2) ?_ fun k s17 ⟨t17, h17⟩ => ?_
  · refine ite_wpF.mpr ⟨fun _ => ?_, fun _ => ⟨⟨t16.it, t16.pos, by have := t16.le; omega⟩, h16⟩⟩
    refine bdo_cut (I := fun a s2 => (1 ≤ a.length ∧ a.length ≤ 3) ∧ TL5 s2.1 122 ∧ SI s2.2.2.2) ?_ fun a s1 ⟨ha, t1, h1⟩ => ?_
    · simp only [bdo_wp, bind_wp, ret_wp, rd_wp, lfs_wp, lfi_wp, cpu_wp, cio_wp, ms_wp, G.ok_wp, st_wp, iti_wp, bdo_wpF, ite_wpM, ite_wpG, ite_wpF, lenT_wp, wyk_nx, wyk_go, mpo_wp]
      refine cl (pick_wp h16 (by simp) (by simp)) fun r s1 q => ⟨?_, t16, q.2⟩
      have := q.1
      simp only [List.mem_cons, List.not_mem_nil, or_false] at this
      rcases this with rfl | rfl | rfl | rfl | rfl | rfl <;> decide +kernel
    · simp only [bdo_wp, bind_wp, ret_wp, rd_wp, lfs_wp, lfi_wp, cpu_wp, cio_wp, ms_wp, G.ok_wp, st_wp, iti_wp, bdo_wpF, ite_wpM, ite_wpG, ite_wpF, lenT_wp, wyk_nx, wyk_go, mpo_wp]
      refine ⟨szk (by omega), ⟨by omega, by omega⟩, cl (take1_wp h1 (by decide) (by decide)) fun r s2 q2 => ?_⟩
      have hq : 0 ≤ 3900 / (a.length : Int) ∧ 3900 / (a.length : Int) ≤ 3900 ∧ a.length * (3900 / (a.length : Int) + r).toNat ≤ 4000 := by
        rcases (show a.length = 1 ∨ a.length = 2 ∨ a.length = 3 by omega) with h | h | h <;> rw [h] <;> omega
      obtain ⟨u, eu, hu⟩ := repT_ok (a := a) (n := 3900 / (a.length : Int) + r) (by omega) (by omega) (szk (by omega))
      exact lfx_wp eu ⟨fun _ => ⟨t1.push (by omega) (by omega), q2.2⟩, fun z => z (t1.lt (by omega))⟩
  · exact ⟨⟨t17.it, t17.pos, by have := t17.le; omega⟩, h17⟩
end K

set_option maxHeartbeats 4000000
namespace K
open PySem PySem.Spec PyProof.Rows L2 G
theorem row_wp {found : List Tx} {s : Store} {R : Exn → Store → Prop} (hf : TL5 found 1000) (hs : SI s) : (m__law_row_of_names found s).wp (fun r s' => (∀ t ∈ r, t.length ≤ 5000) ∧ SI s') R := by
  unfold m__law_row_of_names
  refine bdo_cut (I := fun a s2 => (0 ≤ a ∧ a ≤ 24) ∧ SI s2) (by
    simp only [bdo_wp, bind_wp, ret_wp, rd_wp, lfs_wp, lfi_wp, cpu_wp, cio_wp, ms_wp, G.ok_wp, st_wp, iti_wp, bdo_wpF, ite_wpM, ite_wpG, ite_wpF, lenT_wp, wyk_nx, wyk_go, mpo_wp]
    refine cl (pick_wp hs (by simp) (by simp)) fun z s5 q2 => ⟨?_, q2.2⟩
    have := q2.1; simp only [List.mem_cons, List.not_mem_nil, or_false] at this; omega) fun many s1 ⟨hm, h1⟩ => ?_
  refine bdo_cut (I := fun _ s2 => (s2.1.length ≤ 24 ∧ ∀ t ∈ s2.1, t.length ≤ 5000) ∧ SI s2.2) ?_ fun k s2 ⟨h2, h3⟩ => ?_
  · simp only [bdo_wp, bind_wp, ret_wp, rd_wp, lfs_wp, lfi_wp, cpu_wp, cio_wp, ms_wp, G.ok_wp, st_wp, iti_wp, bdo_wpF, ite_wpM, ite_wpG, ite_wpF, lenT_wp, wyk_nx, wyk_go, mpo_wp]
    refine lfx_wp (rng1_ok (by omega) (by omega)) ?_
    refine cl (mpM_wp (I := SI) (p := fun _ t => t.length ≤ 5000) (by rw [rng_len]; exact szk (by omega)) h1 fun x _ s hs => ?_) fun ys s2 q2 => ?_
    · simp only [bdo_wp, bind_wp, ret_wp, rd_wp, lfs_wp, lfi_wp, cpu_wp, cio_wp, ms_wp, G.ok_wp, st_wp, iti_wp, bdo_wpF, ite_wpM, ite_wpG, ite_wpF, lenT_wp, wyk_nx, wyk_go, mpo_wp]
      refine cl (edge_wp hs (by decide) (by decide)) fun r s1 q1 => ?_
      exact cl (run_wp q1.2 (by omega) (by omega)) fun t s2 q2 => ⟨by omega, q2.2⟩
    · have := Paired.length q2.1
      rw [rng_len] at this
      exact ⟨⟨by show ys.length ≤ 24; omega, Paired.all (q := fun t : Tx => t.length ≤ 5000) (fun _ _ h => h) q2.1⟩, q2.2⟩
  refine bdo_cut (I := fun _ s2 => (s2.1.length ≤ 24 ∧ ∀ t ∈ s2.1, t.length ≤ 5000) ∧ SI s2.2) (by
    simp only [bdo_wp, bind_wp, ret_wp, rd_wp, lfs_wp, lfi_wp, cpu_wp, cio_wp, ms_wp, G.ok_wp, st_wp, iti_wp, bdo_wpF, ite_wpM, ite_wpG, ite_wpF, lenT_wp, wyk_nx, wyk_go, mpo_wp]
    exact cl (take1_wp h3 (by decide) (by decide)) fun r s1 q => ⟨h2, q.2⟩) fun k s4 ⟨h4, h5⟩ => ?_
  refine bdo_cut (I := fun g s2 => (g.1.length ≤ 20000 ∧ ∀ t ∈ g.1, t.length ≤ 5000) ∧ SI s2.2) ?_ fun g s6 ⟨h6, h7⟩ => ?_
  · refine ite_wpG.mpr ⟨fun _ => ?_, fun _ => ⟨⟨by show s4.1.length ≤ 20000; omega, h4.2⟩, h5⟩⟩
    simp only [bdo_wp, bind_wp, ret_wp, rd_wp, lfs_wp, lfi_wp, cpu_wp, cio_wp, ms_wp, G.ok_wp, st_wp, iti_wp, bdo_wpF, ite_wpM, ite_wpG, ite_wpF, lenT_wp, wyk_nx, wyk_go, mpo_wp]
    have hq : 0 < (if many > 1 then many else 1) := by split <;> omega
    have hq2 : (if many > 1 then many else 1) ≤ 24 := by split <;> omega
    generalize (if many > 1 then many else 1) = q at hq hq2
    have hn : 0 ≤ 490 / q ∧ 490 / q ≤ 490 := ⟨Int.ediv_nonneg (by omega) (by omega), Int.ediv_le_self _ (by omega)⟩
    generalize 490 / q = n at hn
    refine ⟨⟨by omega, by omega⟩, ?_⟩
    have hl : s4.1.length * n.toNat ≤ 24 * 490 := Nat.mul_le_mul h4.1 (by omega)
    refine lfx_wp (a := (List.replicate n.toNat s4.1).flatten) ?_ ⟨⟨?_, fun t ht => ?_⟩, h5⟩
    · unfold repL; rw [if_pos ⟨by omega, by omega, Nat.le_trans hl (by decide)⟩]
    · have : ∀ k : Nat, (List.replicate k s4.1).flatten.length = k * s4.1.length := fun k => by
        induction k with
        | zero => simp
        | succ k ih => rw [List.replicate_succ, List.flatten_cons, List.length_append, ih, Nat.add_mul]; omega
      show (List.replicate n.toNat s4.1).flatten.length ≤ 20000
      rw [this, Nat.mul_comm]; omega
    · obtain ⟨l, hl, ht⟩ := List.mem_flatten.mp ht
      rw [(List.mem_replicate.mp hl).2] at ht
      exact h4.2 t ht
  refine bdo_cut (I := fun xs s2 => xs.length ≤ 2 ∧ s2.1 = g.1 ∧ SI s2.2.2) (by
    simp only [bdo_wp, bind_wp, ret_wp, rd_wp, lfs_wp, lfi_wp, cpu_wp, cio_wp, ms_wp, G.ok_wp, st_wp, iti_wp, bdo_wpF, ite_wpM, ite_wpG, ite_wpF, lenT_wp, wyk_nx, wyk_go, mpo_wp]
    refine cl (pick_wp h7 (by simp) (by simp)) fun z s5 q2 => ?_
    have hz : 0 ≤ z ∧ z ≤ 2 := by have := q2.1; simp only [List.mem_cons, List.not_mem_nil, or_false] at this; omega
    exact lfx_wp (rng1_ok (by omega) hz.1) ⟨by rw [rng_len]; omega, rfl, q2.2⟩) fun xs s8 ⟨hx, e8, h8⟩ => ?_
  refine bdo_cut (I := fun _ s2 => (∀ t ∈ s2.1, t.length ≤ 5000) ∧ SI s2.2.2) (cl (forN_wp (I := fun a c _ s => a ++ c = xs ∧ (s.1.length ≤ 20000 + a.length ∧ ∀ t ∈ s.1, t.length ≤ 5000) ∧ SI s.2.2) (xs := []) ⟨rfl, by rw [e8]; exact h6, h8⟩ fun a x c g2 s ⟨e, h9, h⟩ => ?_) fun g s ⟨e, t, h⟩ => ⟨t.2, h⟩) fun _ s9 ⟨t9, h9⟩ => ?_
  · have hal : a.length ≤ 2 := by rw [← e] at hx; simp at hx; omega
    simp only [bdo_wp, bind_wp, ret_wp, rd_wp, lfs_wp, lfi_wp, cpu_wp, cio_wp, ms_wp, G.ok_wp, st_wp, iti_wp, bdo_wpF, ite_wpM, ite_wpG, ite_wpF, lenT_wp, wyk_nx, wyk_go, mpo_wp]
    refine cl (edge_wp h (by omega) (by omega)) fun r s1 q1 => ?_
    refine cl (pick_wp q1.2 hf.pos (by have := hf.le; omega)) fun z s5 q2 => ⟨fun _ => ⟨by rw [← e]; simp, ⟨by simp; omega, fun t ht => ?_⟩, q2.2⟩, fun z => z ⟨Nat.lt_of_le_of_lt h9.1 (Nat.lt_of_le_of_lt (show 20000 + a.length ≤ 20002 by omega) (by decide)), q1.1.1, by omega⟩⟩
    rcases List.mem_append.mp ht with h1 | h1
    · rcases List.mem_append.mp h1 with h2 | h2
      · exact h9.2 t (List.mem_of_mem_take h2)
      · rw [List.mem_singleton.mp h2]; exact hf.it _ q2.1
    · exact h9.2 t (List.mem_of_mem_drop h1)
  · simp only [bdo_wp, bind_wp, ret_wp, rd_wp, lfs_wp, lfi_wp, cpu_wp, cio_wp, ms_wp, G.ok_wp, st_wp, iti_wp, bdo_wpF, ite_wpM, ite_wpG, ite_wpF, lenT_wp, wyk_nx, wyk_go, mpo_wp]
    exact ⟨t9, h9⟩
theorem same_ok {d : D} (hd : nd d < 1000000) : m__law_same d d () = .ok true () := by
  obtain ⟨a, ⟨⟩, e, rfl⟩ := wp_ex (same_wp hd)
  exact e
theorem nd4 (a b c d : Bool) : nd (D.tup [D.bl a, D.bl b, D.bl c, D.bl d]) < 1000000 := by simp [nd, nds]
theorem ndo (z : Option Tx) : nd (match z with | none => D.non | some z => D.str z) < 1000000 := by cases z <;> simp [nd]
theorem sz5 {t : Tx} (h : t.length ≤ 5000) : t.length + 2 ≤ SZ := szk (by omega)
theorem law_wp {ns : List Int} {R : Exn → Unit → Prop} (hn : ns.length ≤ 63) : (m_law ns ()).wp (fun r _ => r = true) R := by
  unfold m_law
  refine bdo_cut (I := fun _ s2 => SI s2.1) (by simp only [bdo_wp, bind_wp, ret_wp, rd_wp, lfs_wp, lfi_wp, cpu_wp, cio_wp, ms_wp, G.ok_wp, st_wp, iti_wp, bdo_wpF, ite_wpM, ite_wpG, ite_wpF, lenT_wp, wyk_nx, wyk_go, mpo_wp]; exact cl (store_wp hn) fun a s h => h) fun _ s1 h1 => ?_
  refine bdo_cut (I := fun a s2 => TL5 a 1000 ∧ SI s2.1) (by simp only [bdo_wp, bind_wp, ret_wp, rd_wp, lfs_wp, lfi_wp, cpu_wp, cio_wp, ms_wp, G.ok_wp, st_wp, iti_wp, bdo_wpF, ite_wpM, ite_wpG, ite_wpF, lenT_wp, wyk_nx, wyk_go, mpo_wp]; exact cl (many_wp h1) fun a s h => h) fun found s2 ⟨hf, h2⟩ => ?_
  refine bdo_cut (I := fun xs s2 => xs = found ∧ SI s2.1) (by simp only [bdo_wp, bind_wp, ret_wp, rd_wp, lfs_wp, lfi_wp, cpu_wp, cio_wp, ms_wp, G.ok_wp, st_wp, iti_wp, bdo_wpF, ite_wpM, ite_wpG, ite_wpF, lenT_wp, wyk_nx, wyk_go, mpo_wp]; exact ⟨by trivial, h2⟩) fun xs s3 ⟨e, h3⟩ => ?_
  subst e
  refine bdo_cut (I := fun r s2 => r = .nx () ∧ SI s2.1) (forL_inv (I := fun _ s => SI s.1) h3 (fun x hx g s hs => ?_) fun g s hs => ⟨rfl, hs⟩) fun r s4 ⟨e, h4⟩ => ?_
  · simp only [bdo_wp, bind_wp, ret_wp, rd_wp, lfs_wp, lfi_wp, cpu_wp, cio_wp, ms_wp, G.ok_wp, st_wp, iti_wp, bdo_wpF, ite_wpM, ite_wpG, ite_wpF, lenT_wp, wyk_nx, wyk_go, mpo_wp]
    have hz := sz5 (hf.it x hx)
    simp only [four_told_ok x hz, four_due_ok x hz, G.ok_wp, same_ok (nd4 _ _ _ _), Bool.not_true]
    simpa using hs
  subst e
  refine wyk_nx.mpr ?_
  refine bdo_cut (I := fun a s2 => (a.length = 6 ∧ ∀ r ∈ a, ∀ t ∈ r, t.length ≤ 5000) ∧ SI s2.1) ?_ fun rows s5 ⟨h5, h6⟩ => ?_
  · simp only [bdo_wp, bind_wp, ret_wp, rd_wp, lfs_wp, lfi_wp, cpu_wp, cio_wp, ms_wp, G.ok_wp, st_wp, iti_wp, bdo_wpF, ite_wpM, ite_wpG, ite_wpF, lenT_wp, wyk_nx, wyk_go, mpo_wp]
    refine lfx_wp (rng1_ok (by decide) (by decide)) ?_
    refine cl (mpM_wp (I := fun s2 => SI s2.1) (p := fun _ r => ∀ t ∈ r, t.length ≤ 5000) (by rw [rng_len]; exact szk (by decide)) h4 fun x _ s3 hs3 => ?_) fun ys s2 q2 => ?_
    · simp only [bdo_wp, bind_wp, ret_wp, rd_wp, lfs_wp, lfi_wp, cpu_wp, cio_wp, ms_wp, G.ok_wp, st_wp, iti_wp, bdo_wpF, ite_wpM, ite_wpG, ite_wpF, lenT_wp, wyk_nx, wyk_go, mpo_wp]
      exact cl (row_wp hf hs3) fun t s2 q2 => q2
    · have hl := Paired.length q2.1
      rw [rng_len] at hl
      have hl : ys.length = 5 := hl.symm
      have ha := Paired.all (q := fun r : List Tx => ∀ t ∈ r, t.length ≤ 5000) (fun _ _ h => h) q2.1
      refine lfx_wp (a := [[]] ++ ys) ?_ ⟨⟨by simp; omega, fun r hr => ?_⟩, q2.2⟩
      · unfold catL; rw [if_pos (szk (by simp; omega))]
      · rcases List.mem_append.mp hr with h | h
        · rw [List.mem_singleton.mp h]; simp
        · exact ha r h
  refine bdo_cut (I := fun xs s2 => xs = rows ∧ SI s2.1) (by simp only [bdo_wp, bind_wp, ret_wp, rd_wp, lfs_wp, lfi_wp, cpu_wp, cio_wp, ms_wp, G.ok_wp, st_wp, iti_wp, bdo_wpF, ite_wpM, ite_wpG, ite_wpF, lenT_wp, wyk_nx, wyk_go, mpo_wp]; exact ⟨by trivial, h6⟩) fun xr s7 ⟨e, h7⟩ => ?_
  subst e
  refine bdo_cut (I := fun r s2 => r = .nx () ∧ SI s2.1) (forL_inv (I := fun _ s => SI s.1) h7 (fun x hx g s hs => ?_) fun g s hs => ⟨rfl, hs⟩) fun r s8 ⟨e, h8⟩ => ?_
  · simp only [bdo_wp, bind_wp, ret_wp, rd_wp, lfs_wp, lfi_wp, cpu_wp, cio_wp, ms_wp, G.ok_wp, st_wp, iti_wp, bdo_wpF, ite_wpM, ite_wpG, ite_wpF, lenT_wp, wyk_nx, wyk_go, mpo_wp]
    have hz : ∀ t ∈ x, t.length ≤ SZ := fun t ht => szk (by have := h5.2 x hx t ht; omega)
    simp only [first_bad_name_ok x hz, law_first_due_ok x hz, G.ok_wp]
    rw [same_ok]
    rotate_left
    · split <;> simp [nd]
    simp only [G.ok_wp]
    simpa using hs
  subst e
  refine wyk_nx.mpr ?_
  refine bdo_cut (I := fun ys s2 => (∀ t ∈ ys, t.length ≤ 5000) ∧ SI s2.1) ?_ fun ys s9 ⟨hy, h9⟩ => ?_
  · simp only [bdo_wp, bind_wp, ret_wp, rd_wp, lfs_wp, lfi_wp, cpu_wp, cio_wp, ms_wp, G.ok_wp, st_wp, iti_wp, bdo_wpF, ite_wpM, ite_wpG, ite_wpF, lenT_wp, wyk_nx, wyk_go, mpo_wp]
    refine lfx_wp (a := (xs.drop (HT.sIx xs.length 0 none)).take (HT.sIx xs.length xs.length (some 9) - HT.sIx xs.length 0 none)) rfl ?_
    exact ⟨fun t ht => hf.it t (List.mem_of_mem_drop (List.mem_of_mem_take ht)), h8⟩
  refine bdo_cut (I := fun r s2 => r = .nx () ∧ SI s2.1) (forL_inv (I := fun _ s => SI s.1) h9 (fun x hx g s hs => ?_) fun g s hs => ⟨rfl, hs⟩) fun r s10 ⟨e, h10⟩ => ?_
  · simp only [bdo_wp, bind_wp, ret_wp, rd_wp, lfs_wp, lfi_wp, cpu_wp, cio_wp, ms_wp, G.ok_wp, st_wp, iti_wp, bdo_wpF, ite_wpM, ite_wpG, ite_wpF, lenT_wp, wyk_nx, wyk_go, mpo_wp]
    have hz := sz5 (hy x hx)
    simp only [four_told_ok x hz, four_due_ok x hz, G.ok_wp, same_ok (nd4 _ _ _ _), Bool.not_true]
    simpa using hs
  subst e
  refine wyk_nx.mpr ?_
  refine bdo_cut (I := fun r _ => ∀ t ∈ r, t.length ≤ 5000) ?_ fun last s11 h11 => ?_
  · simp only [bdo_wp, bind_wp, ret_wp, rd_wp, lfs_wp, lfi_wp, cpu_wp, cio_wp, ms_wp, G.ok_wp, st_wp, iti_wp, bdo_wpF, ite_wpM, ite_wpG, ite_wpF, lenT_wp, wyk_nx, wyk_go, mpo_wp]
    refine cl (take1_wp h10 (by decide) (by decide)) fun r s1 q1 => ?_
    obtain ⟨x, e, hx⟩ := atI_at (xs := xr) (i := 1 + r) (by omega) (by rw [h5.1]; omega)
    exact lfx_wp e (h5.2 x hx)
  · simp only [bdo_wp, bind_wp, ret_wp, rd_wp, lfs_wp, lfi_wp, cpu_wp, cio_wp, ms_wp, G.ok_wp, st_wp, iti_wp, bdo_wpF, ite_wpM, ite_wpG, ite_wpF, lenT_wp, wyk_nx, wyk_go, mpo_wp]
    have hz : ∀ t ∈ last, t.length ≤ SZ := fun t ht => szk (by have := h11 t ht; omega)
    simp only [first_bad_name_ok last hz, law_first_due_ok last hz, G.ok_wp]
    rw [same_ok]
    rotate_left
    · split <;> simp [nd]
    simp only [G.ok_wp]
theorem law_true {ns : List Int} (h : ns.length ≤ 63) (hb : ∀ z ∈ ns, Builtin.Int.intBits z ≤ 1048576) : m_law ns () = .ok true () := by
  obtain ⟨a, ⟨⟩, e, rfl⟩ := wp_ex (law_wp h)
  exact e
end K

set_option maxHeartbeats 0
namespace KH
open PySem PySem.Spec PyProof.Rows L2 G K
def d_is_letter : He.DefD := ⟨("is_letter", none), "is_letter", "is_letter", defArgs s5, defBody s5, defScope s5, [], []⟩
def d_is_digit : He.DefD := ⟨("is_digit", none), "is_digit", "is_digit", defArgs s6, defBody s6, defScope s6, [], []⟩
def d_is_name_sign : He.DefD := ⟨("is_name_sign", none), "is_name_sign", "is_name_sign", defArgs s7, defBody s7, defScope s7, [], []⟩
def d_has_name_form : He.DefD := ⟨("has_name_form", none), "has_name_form", "has_name_form", defArgs s8, defBody s8, defScope s8, [], []⟩
def d_is_name : He.DefD := ⟨("is_name", none), "is_name", "is_name", defArgs s9, defBody s9, defScope s9, [], []⟩
def d_is_word : He.DefD := ⟨("is_word", none), "is_word", "is_word", defArgs s10, defBody s10, defScope s10, [], []⟩
def d_is_tail : He.DefD := ⟨("is_tail", none), "is_tail", "is_tail", defArgs s11, defBody s11, defScope s11, [], []⟩
def d_is_reading_name : He.DefD := ⟨("is_reading_name", none), "is_reading_name", "is_reading_name", defArgs s12, defBody s12, defScope s12, [], []⟩
def d_first_bad_name : He.DefD := ⟨("first_bad_name", none), "first_bad_name", "first_bad_name", defArgs s13, defBody s13, defScope s13, [], []⟩
def d__law_mixed : He.DefD := ⟨("_law_mixed", none), "_law_mixed", "_law_mixed", defArgs s15, defBody s15, defScope s15, [], []⟩
def d__law_store : He.DefD := ⟨("_law_store", none), "_law_store", "_law_store", defArgs s16, defBody s16, defScope s16, [], []⟩
def d__law_take : He.DefD := ⟨("_law_take", none), "_law_take", "_law_take", defArgs s17, defBody s17, defScope s17, [], []⟩
def d__law_pick : He.DefD := ⟨("_law_pick", none), "_law_pick", "_law_pick", defArgs s18, defBody s18, defScope s18, [], []⟩
def d__law_edge : He.DefD := ⟨("_law_edge", none), "_law_edge", "_law_edge", defArgs s19, defBody s19, defScope s19, [], []⟩
def d__law_text : He.DefD := ⟨("_law_text", none), "_law_text", "_law_text", defArgs s20, defBody s20, defScope s20, [], []⟩
def d__law_run : He.DefD := ⟨("_law_run", none), "_law_run", "_law_run", defArgs s21, defBody s21, defScope s21, [], []⟩
def d__law_bad_name : He.DefD := ⟨("_law_bad_name", none), "_law_bad_name", "_law_bad_name", defArgs s22, defBody s22, defScope s22, [], []⟩
def d__law_near_name : He.DefD := ⟨("_law_near_name", none), "_law_near_name", "_law_near_name", defArgs s23, defBody s23, defScope s23, [], []⟩
def d__law_is_run : He.DefD := ⟨("_law_is_run", none), "_law_is_run", "_law_is_run", defArgs s24, defBody s24, defScope s24, [], []⟩
def d__law_is_tail : He.DefD := ⟨("_law_is_tail", none), "_law_is_tail", "_law_is_tail", defArgs s25, defBody s25, defScope s25, [], []⟩
def d__law_is_reading_name : He.DefD := ⟨("_law_is_reading_name", none), "_law_is_reading_name", "_law_is_reading_name", defArgs s26, defBody s26, defScope s26, [], []⟩
def d__law_is_whole : He.DefD := ⟨("_law_is_whole", none), "_law_is_whole", "_law_is_whole", defArgs s27, defBody s27, defScope s27, [], []⟩
def d__law_same : He.DefD := ⟨("_law_same", none), "_law_same", "_law_same", defArgs s28, defBody s28, defScope s28, [], []⟩
def d__law_four_due : He.DefD := ⟨("_law_four_due", none), "_law_four_due", "_law_four_due", defArgs s29, defBody s29, defScope s29, [], []⟩
def d__law_four_told : He.DefD := ⟨("_law_four_told", none), "_law_four_told", "_law_four_told", defArgs s30, defBody s30, defScope s30, [], []⟩
def d__law_many_texts : He.DefD := ⟨("_law_many_texts", none), "_law_many_texts", "_law_many_texts", defArgs s31, defBody s31, defScope s31, [], []⟩
def d__law_row_of_names : He.DefD := ⟨("_law_row_of_names", none), "_law_row_of_names", "_law_row_of_names", defArgs s32, defBody s32, defScope s32, [], []⟩
def d__law_first_due : He.DefD := ⟨("_law_first_due", none), "_law_first_due", "_law_first_due", defArgs s33, defBody s33, defScope s33, [], []⟩
def d_law : He.DefD := ⟨("law", none), "law", "law", defArgs s34, defBody s34, defScope s34, [], []⟩
def fn : List He.DefD := ([d_is_letter, d_is_digit, d_is_name_sign, d_has_name_form, d_is_name, d_is_word, d_is_tail, d_is_reading_name, d_first_bad_name, d__law_mixed, d__law_store, d__law_take] : List He.DefD) ++ ([d__law_pick, d__law_edge, d__law_text, d__law_run, d__law_bad_name, d__law_near_name, d__law_is_run, d__law_is_tail, d__law_is_reading_name, d__law_is_whole, d__law_same, d__law_four_due] : List He.DefD) ++ ([d__law_four_told, d__law_many_texts, d__law_row_of_names, d__law_first_due, d_law] : List He.DefD)
def fa : List He.Fa := ([.glo "is_letter", .glo "is_digit", .glo "is_name_sign", .glo "has_name_form", .glo "is_name", .glo "is_word", .glo "is_tail", .glo "is_reading_name", .glo "first_bad_name", .glo "_law_mixed", .glo "_law_store", .glo "_law_take"] : List He.Fa) ++ ([.glo "_law_pick", .glo "_law_edge", .glo "_law_text", .glo "_law_run", .glo "_law_bad_name", .glo "_law_near_name", .glo "_law_is_run", .glo "_law_is_tail", .glo "_law_is_reading_name", .glo "_law_is_whole", .glo "_law_same", .glo "_law_four_due"] : List He.Fa) ++ ([.glo "_law_four_told", .glo "_law_many_texts", .glo "_law_row_of_names", .glo "_law_first_due", .glo "law", .int "NAME_MOST" 12, .int "WORD_MOST" 40, .int "TAIL_MOST" 6, .int "PARTS_MOST" 4, .free "abs", .free "all", .free "bool"] : List He.Fa) ++ ([.free "dict", .free "int", .free "isinstance", .free "len", .free "list", .free "max", .free "range", .free "sorted", .free "str", .free "tuple"] : List He.Fa)
def loose : List Str := (["NAME_MOST", "WORD_MOST", "TAIL_MOST", "PARTS_MOST", "is_letter", "is_digit", "is_name_sign", "has_name_form", "is_name", "is_word", "is_tail", "is_reading_name"] : List Str) ++ (["first_bad_name", "_law_mixed", "_law_store", "_law_take", "_law_pick", "_law_edge", "_law_text", "_law_run", "_law_bad_name", "_law_near_name", "_law_is_run", "_law_is_tail"] : List Str) ++ (["_law_is_reading_name", "_law_is_whole", "_law_same", "_law_four_due", "_law_four_told", "_law_many_texts", "_law_row_of_names", "_law_first_due"] : List Str)
abbrev R : PySem.W.OpenRow := PySem.W.OpenLaw.row PySem.Challenge.rw_sheetsmet_k00_names_words_and_tails
abbrev hk : PySem.W.Hook := He.hookD 4 fa fn
def ob (s : PySem.W.SharedT) : He.AlD := He.obsDG 4 fa fn (HandSHeadRun.getT s)
theorem ob_eq (s : PySem.W.SharedT) : ob s = hk.obs s.abs := He.obsDG_eq (HandSHeadRun.getT_eq s)
theorem run (w : World) : HandSHeadRun.RunEq R (PySem.W.view R.prog [34]) hk ob 4000 loose w := by
  intro os
  kernel_rfl
theorem txt {K : PySem.W.Frag} {h : Heap} {mg : Str → Option Value} (X : K.In h) (G : h.Ns mainGlobals mg) (c : He.SaysD fa fn K) : Txt K mg where
  g_is_letter := He.glo_ok X G (c.fact 0 (f := .glo "is_letter") rfl)
  F_is_letter := c.def_ 0 (d := d_is_letter) rfl
  g_is_digit := He.glo_ok X G (c.fact 1 (f := .glo "is_digit") rfl)
  F_is_digit := c.def_ 1 (d := d_is_digit) rfl
  g_is_name_sign := He.glo_ok X G (c.fact 2 (f := .glo "is_name_sign") rfl)
  F_is_name_sign := c.def_ 2 (d := d_is_name_sign) rfl
  g_has_name_form := He.glo_ok X G (c.fact 3 (f := .glo "has_name_form") rfl)
  F_has_name_form := c.def_ 3 (d := d_has_name_form) rfl
  g_is_name := He.glo_ok X G (c.fact 4 (f := .glo "is_name") rfl)
  F_is_name := c.def_ 4 (d := d_is_name) rfl
  g_is_word := He.glo_ok X G (c.fact 5 (f := .glo "is_word") rfl)
  F_is_word := c.def_ 5 (d := d_is_word) rfl
  g_is_tail := He.glo_ok X G (c.fact 6 (f := .glo "is_tail") rfl)
  F_is_tail := c.def_ 6 (d := d_is_tail) rfl
  g_is_reading_name := He.glo_ok X G (c.fact 7 (f := .glo "is_reading_name") rfl)
  F_is_reading_name := c.def_ 7 (d := d_is_reading_name) rfl
  g_first_bad_name := He.glo_ok X G (c.fact 8 (f := .glo "first_bad_name") rfl)
  F_first_bad_name := c.def_ 8 (d := d_first_bad_name) rfl
  g__law_mixed := He.glo_ok X G (c.fact 9 (f := .glo "_law_mixed") rfl)
  F__law_mixed := c.def_ 9 (d := d__law_mixed) rfl
  g__law_store := He.glo_ok X G (c.fact 10 (f := .glo "_law_store") rfl)
  F__law_store := c.def_ 10 (d := d__law_store) rfl
  g__law_take := He.glo_ok X G (c.fact 11 (f := .glo "_law_take") rfl)
  F__law_take := c.def_ 11 (d := d__law_take) rfl
  g__law_pick := He.glo_ok X G (c.fact 12 (f := .glo "_law_pick") rfl)
  F__law_pick := c.def_ 12 (d := d__law_pick) rfl
  g__law_edge := He.glo_ok X G (c.fact 13 (f := .glo "_law_edge") rfl)
  F__law_edge := c.def_ 13 (d := d__law_edge) rfl
  g__law_text := He.glo_ok X G (c.fact 14 (f := .glo "_law_text") rfl)
  F__law_text := c.def_ 14 (d := d__law_text) rfl
  g__law_run := He.glo_ok X G (c.fact 15 (f := .glo "_law_run") rfl)
  F__law_run := c.def_ 15 (d := d__law_run) rfl
  g__law_bad_name := He.glo_ok X G (c.fact 16 (f := .glo "_law_bad_name") rfl)
  F__law_bad_name := c.def_ 16 (d := d__law_bad_name) rfl
  g__law_near_name := He.glo_ok X G (c.fact 17 (f := .glo "_law_near_name") rfl)
  F__law_near_name := c.def_ 17 (d := d__law_near_name) rfl
  g__law_is_run := He.glo_ok X G (c.fact 18 (f := .glo "_law_is_run") rfl)
  F__law_is_run := c.def_ 18 (d := d__law_is_run) rfl
  g__law_is_tail := He.glo_ok X G (c.fact 19 (f := .glo "_law_is_tail") rfl)
  F__law_is_tail := c.def_ 19 (d := d__law_is_tail) rfl
  g__law_is_reading_name := He.glo_ok X G (c.fact 20 (f := .glo "_law_is_reading_name") rfl)
  F__law_is_reading_name := c.def_ 20 (d := d__law_is_reading_name) rfl
  g__law_is_whole := He.glo_ok X G (c.fact 21 (f := .glo "_law_is_whole") rfl)
  F__law_is_whole := c.def_ 21 (d := d__law_is_whole) rfl
  g__law_same := He.glo_ok X G (c.fact 22 (f := .glo "_law_same") rfl)
  F__law_same := c.def_ 22 (d := d__law_same) rfl
  g__law_four_due := He.glo_ok X G (c.fact 23 (f := .glo "_law_four_due") rfl)
  F__law_four_due := c.def_ 23 (d := d__law_four_due) rfl
  g__law_four_told := He.glo_ok X G (c.fact 24 (f := .glo "_law_four_told") rfl)
  F__law_four_told := c.def_ 24 (d := d__law_four_told) rfl
  g__law_many_texts := He.glo_ok X G (c.fact 25 (f := .glo "_law_many_texts") rfl)
  F__law_many_texts := c.def_ 25 (d := d__law_many_texts) rfl
  g__law_row_of_names := He.glo_ok X G (c.fact 26 (f := .glo "_law_row_of_names") rfl)
  F__law_row_of_names := c.def_ 26 (d := d__law_row_of_names) rfl
  g__law_first_due := He.glo_ok X G (c.fact 27 (f := .glo "_law_first_due") rfl)
  F__law_first_due := c.def_ 27 (d := d__law_first_due) rfl
  g_law := He.glo_ok X G (c.fact 28 (f := .glo "law") rfl)
  F_law := c.def_ 28 (d := d_law) rfl
  i_NAME_MOST := He.int_ok X G (c.fact 29 (f := .int "NAME_MOST" 12) rfl)
  i_WORD_MOST := He.int_ok X G (c.fact 30 (f := .int "WORD_MOST" 40) rfl)
  i_TAIL_MOST := He.int_ok X G (c.fact 31 (f := .int "TAIL_MOST" 6) rfl)
  i_PARTS_MOST := He.int_ok X G (c.fact 32 (f := .int "PARTS_MOST" 4) rfl)
  n_abs := He.free_ok X G (c.fact 33 (f := .free "abs") rfl)
  n_all := He.free_ok X G (c.fact 34 (f := .free "all") rfl)
  n_bool := He.free_ok X G (c.fact 35 (f := .free "bool") rfl)
  n_dict := He.free_ok X G (c.fact 36 (f := .free "dict") rfl)
  n_int := He.free_ok X G (c.fact 37 (f := .free "int") rfl)
  n_isinstance := He.free_ok X G (c.fact 38 (f := .free "isinstance") rfl)
  n_len := He.free_ok X G (c.fact 39 (f := .free "len") rfl)
  n_list := He.free_ok X G (c.fact 40 (f := .free "list") rfl)
  n_max := He.free_ok X G (c.fact 41 (f := .free "max") rfl)
  n_range := He.free_ok X G (c.fact 42 (f := .free "range") rfl)
  n_sorted := He.free_ok X G (c.fact 43 (f := .free "sorted") rfl)
  n_str := He.free_ok X G (c.fact 44 (f := .free "str") rfl)
  n_tuple := He.free_ok X G (c.fact 45 (f := .free "tuple") rfl)
theorem fin {w : World} {K : PySem.W.Frag} {h : Heap} {mg : Str → Option Value} {f : Addr} (X : K.In h) (G : h.Ns mainGlobals mg) (hfa : mg ("law" : Str) = some (.ref f)) (c : He.SaysD fa fn K) :
    ∃ (K : PySem.W.Frag) (fd : FuncData) (m : (List Int × Unit) → Rs Unit Bool), K.In h ∧ (∀ (s : Shared) (u : Value), BindsTo s fd ⟨[u], []⟩ [("script", u)]) ∧
        (∀ ns : List Int, ns.length ≤ 63 → (∀ z ∈ ns, Builtin.Int.intBits z ≤ 1048576) → m (ns, ()) = .ok true ()) ∧
        ∀ base : Heap, K.In base → base.Ns mainGlobals mg → FnOk (PySem.Challenge.rw_sheetsmet_k00_names_words_and_tails).prog w K mg base (L2.CX (PySem.Challenge.rw_sheetsmet_k00_names_words_and_tails).prog w) 7 f fd ["script"] (spC mg K (fun y : (List Int × Unit) => [(aF aInt) y.1]) [] aBl (fun _ => []) m) := by
  have T := txt X G c
  have e := hfa.symm.trans T.g_law
  cases e
  have b := FunD.bindsA (ps := ["script"]) T.F_law.choose_spec fun _ _ _ _ _ _ us hl => match us, hl with | [_], _ => rfl
  exact ⟨K, T.F_law.choose, fun y => m_law y.1 (), X, fun s v => b s [v] rfl, fun ns h1 h2 => law_true h1 h2, fun base _ _ => ok_law T⟩
end KH
theorem PySem.Challenge.cw_sheetsmet_k00_names_words_and_tails_holds : PySem.Challenge.rw_sheetsmet_k00_names_words_and_tails.Holds := by
  w_on; o_law
  refine HandSHeadRun.head_any (r := PySem.W.OpenLaw.row PySem.Challenge.rw_sheetsmet_k00_names_words_and_tails) (q := PySem.W.view (PySem.W.OpenLaw.row PySem.Challenge.rw_sheetsmet_k00_names_words_and_tails).prog [34]) (H := KH.hk) (ob := KH.ob) (M := 4000) (loose := KH.loose) (d := HandSHeadRun.topDef (PySem.W.OpenLaw.row PySem.Challenge.rw_sheetsmet_k00_names_words_and_tails).prog 34) (kwd := []) KH.ob_eq
    (by kernel_rfl) (fun s => by kernel_rfl) KH.run (by kernel_rfl) (by kernel_rfl) (by kernel_rfl) (by rfl) (by first | assumption | decide +kernel) (by decide +kernel) ⟨rfl, rfl, rfl, rfl, rfl, by decide +kernel⟩ ?hw ?hc
  case hw => w_witness2
  case hc =>
    refine G.walk_ofG (l := PySem.Challenge.rw_sheetsmet_k00_names_words_and_tails) (n := 63) (k := 7) (x := "script") rfl (by decide) (by kernel_rfl) ⟨rfl, by decide, by decide⟩ ?_
    intro w mg fa h Y GG hmg0
    obtain ⟨K, KX, c⟩ := Y
    have hmg : mg ("law" : PySem.Str) = some (.ref fa) := by
      have e : (HandSHeadRun.topDef (PySem.W.OpenLaw.row PySem.Challenge.rw_sheetsmet_k00_names_words_and_tails).prog 34).name = ("law" : PySem.Str) := by kernel_rfl
      rw [← e]
      exact hmg0
    exact KH.fin KX GG hmg c
