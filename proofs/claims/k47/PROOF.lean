import PyProof.Rows.All
import Wide.All
import OpenK.AllK
import Wide.FinOn
import HandS.ForSpec
import HandS.IsInst
import HandS.TupAny
import HandS.TupMul
import HandS.Wide
import HandS.Text
import HandS.Comp
import HandS.Walk
import HandS.RaiseMore
import HandS.Dict
import HandS.WordsDict
import HandS.Flow
import KE.GoesEnum
import KE.GoesMore
import KE.GoesZip
import HandS.Style
import HandS.SortInts
import HandS.Deep
import HandS.SetFor
import HandS.Star
import HandS.SetKeys
import HandS.Defaults
import HandS.Ends
import KE.KStateDown
import HandS.More
import HandS.Words
import HandS.WordsExc
import HandS.Head0
import HandS.Head1
import HandS.Head2
import HandS.HeadEnd
import HandS.HeadHook1
import HandS.HeadHook2
import PySem.Challenge.RW_fifteenforms_k47_whole_triangular_sums
set_option Elab.async false
set_option linter.all false
set_option maxRecDepth 100000
namespace Tv
open PySem L2

/-- a Python value as a tree -/
inductive Val where
  | non
  | bl (b : Bool)
  | int (i : Int)
  | str (x : Str)
  | tup (xs : List Val)
  | lst (xs : List Val)
  | dic (kvs : List (Key × Val))
  | obj (C : Str) (fs : List (Str × Val))
  | cell (n : Nat)
  | scr (xs : List Val)
  deriving Inhabited

/-- what a piece of code comes to -/
inductive Res (α : Type) where
  | ok (a : α)
  | exn (c : Str) (fs : List (Str × Val))
  | stuck

def Res.bind {α β : Type} : Res α → (α → Res β) → Res β
  | .ok a, f => f a
  | .exn c fs, _ => .exn c fs
  | .stuck, _ => .stuck

instance : Monad Res where
  pure := .ok
  bind := Res.bind

abbrev Cells := List Val
def M (α : Type) := Cells → Res α × Cells
def M.bind {α β : Type} (m : M α) (f : α → M β) : M β := fun S =>
  match m S with
  | (.ok a, S1) => f a S1
  | (.exn c fs, S1) => (.exn c fs, S1)
  | (.stuck, S1) => (.stuck, S1)
instance : Monad M where
  pure a := fun S => (.ok a, S)
  bind := M.bind
/-- a stateless piece -/
def lift {α : Type} (r : Res α) : M α := fun S => (r, S)

/-! ### what stands in the heap for a tree -/
section
variable (K : PySem.W.Frag) (mg : Str → Option Value) (κ : List Addr) (G : Hp)
mutual
def Rep : Val → V → Prop
  | .non, v => v = .non
  | .bl b, v => v = .bl b
  | .int i, v => v = .int i
  | .str x, v => v = .str x
  | .tup xs, v => ∃ a vs, v = .ref a ∧ SqT K G a vs ∧ RepL xs vs
  | .lst xs, v => ∃ a vs, v = .ref a ∧ G a = some (.lst vs) ∧ RepL xs vs
  | .dic kvs, v => ∃ a vs, v = .ref a ∧ Rd G a (.dK vs) ∧ RepD kvs vs
  | .obj C fs, v => ∃ a Ca dx vs, v = .ref a ∧ mg C = some (.ref Ca) ∧ G a = some (.ins Ca dx vs) ∧ RepF fs vs
  | .cell n, v => ∃ a, κ[n]? = some a ∧ v = .ref a
  | .scr xs, v => ∃ a vs, v = .ref a ∧ SqL K G a vs ∧ RepL xs vs
def RepL : List Val → List V → Prop
  | [], vs => vs = []
  | x :: xs, vs => ∃ v r, vs = v :: r ∧ Rep x v ∧ RepL xs r
def RepD : List (Key × Val) → List (Key × V) → Prop
  | [], vs => vs = []
  | x :: xs, vs => ∃ v r, vs = (x.1, v) :: r ∧ Rep x.2 v ∧ RepD xs r
def RepF : List (Str × Val) → List (Str × V) → Prop
  | [], vs => vs = []
  | x :: xs, vs => ∃ v r, vs = (x.1, v) :: r ∧ Rep x.2 v ∧ RepF xs r
end
end

/-- the heap grows -/
def Le (G G' : Hp) : Prop := ∀ a o, G a = some o → G' a = some o
theorem Le.refl (G : Hp) : Le G G := fun _ _ h => h
theorem Le.trans {G G1 G2 : Hp} (a : Le G G1) (b : Le G1 G2) : Le G G2 := fun x o h => b x o (a x o h)
theorem Le.sqL {K : PySem.W.Frag} {G G' : Hp} {a : Addr} {xs : List V} (e : Le G G') (h : SqL K G a xs) : SqL K G' a xs := by
  rcases h with (h | ⟨o, h⟩) | h
  · exact .inl (.inl (e _ _ h))
  · exact .inl (.inr ⟨o, e _ _ h⟩)
  · exact .inr h
theorem Le.sqT {K : PySem.W.Frag} {G G' : Hp} {a : Addr} {xs : List V} (e : Le G G') (h : SqT K G a xs) : SqT K G' a xs := by
  rcases h with (h | ⟨o, h⟩) | h
  · exact .inl (.inl (e _ _ h))
  · exact .inl (.inr ⟨o, e _ _ h⟩)
  · exact .inr h

theorem Le.rd {G G' : Hp} {a : Addr} {o : HO} (e : Le G G') (h : Rd G a o) : Rd G' a o := by
  rcases h with h | ⟨ob, h⟩
  · exact .inl (e _ _ h)
  · exact .inr ⟨ob, e _ _ h⟩

/-- the cells' addresses grow -/
def Pre (κ κ' : List Addr) : Prop := ∀ (n : Nat) a, κ[n]? = some a → κ'[n]? = some a
theorem Pre.refl (κ : List Addr) : Pre κ κ := fun _ _ h => h
theorem Pre.trans {κ κ1 κ2 : List Addr} (a : Pre κ κ1) (b : Pre κ1 κ2) : Pre κ κ2 := fun x o h => b x o (a x o h)

section
variable {K : PySem.W.Frag} {mg : Str → Option Value} {κ κ' : List Addr} {G G' : Hp}
mutual
theorem Rep.mono (hk : Pre κ κ') (hG : Le G G') : ∀ {x : Val} {v : V}, Rep K mg κ G x v → Rep K mg κ' G' x v
  | .non, _, h => by unfold Rep at h ⊢; exact h
  | .bl _, _, h => by unfold Rep at h ⊢; exact h
  | .int _, _, h => by unfold Rep at h ⊢; exact h
  | .str _, _, h => by unfold Rep at h ⊢; exact h
  | .tup xs, _, h => by
    unfold Rep at h ⊢
    obtain ⟨a, vs, e, q, r⟩ := h
    exact ⟨a, vs, e, hG.sqT q, RepL.mono hk hG r⟩
  | .lst xs, _, h => by
    unfold Rep at h ⊢
    obtain ⟨a, vs, e, q, r⟩ := h
    exact ⟨a, vs, e, hG _ _ q, RepL.mono hk hG r⟩
  | .dic xs, _, h => by
    unfold Rep at h ⊢
    obtain ⟨a, vs, e, q, r⟩ := h
    exact ⟨a, vs, e, hG.rd q, RepD.mono hk hG r⟩
  | .obj _ xs, _, h => by
    unfold Rep at h ⊢
    obtain ⟨a, Ca, dx, vs, e, c, q, r⟩ := h
    exact ⟨a, Ca, dx, vs, e, c, hG _ _ q, RepF.mono hk hG r⟩
  | .cell _, _, h => by
    unfold Rep at h ⊢
    obtain ⟨a, q, e⟩ := h
    exact ⟨a, hk _ _ q, e⟩
  | .scr xs, _, h => by
    unfold Rep at h ⊢
    obtain ⟨a, vs, e, q, r⟩ := h
    exact ⟨a, vs, e, hG.sqL q, RepL.mono hk hG r⟩
theorem RepL.mono (hk : Pre κ κ') (hG : Le G G') : ∀ {xs : List Val} {vs : List V}, RepL K mg κ G xs vs → RepL K mg κ' G' xs vs
  | [], _, h => by unfold RepL at h ⊢; exact h
  | x :: xs, _, h => by
    unfold RepL at h ⊢
    obtain ⟨v, r, e, q, t⟩ := h
    exact ⟨v, r, e, Rep.mono hk hG q, RepL.mono hk hG t⟩
theorem RepD.mono (hk : Pre κ κ') (hG : Le G G') : ∀ {xs : List (Key × Val)} {vs : List (Key × V)}, RepD K mg κ G xs vs → RepD K mg κ' G' xs vs
  | [], _, h => by unfold RepD at h ⊢; exact h
  | x :: xs, _, h => by
    unfold RepD at h ⊢
    obtain ⟨v, r, e, q, t⟩ := h
    exact ⟨v, r, e, Rep.mono hk hG q, RepD.mono hk hG t⟩
theorem RepF.mono (hk : Pre κ κ') (hG : Le G G') : ∀ {xs : List (Str × Val)} {vs : List (Str × V)}, RepF K mg κ G xs vs → RepF K mg κ' G' xs vs
  | [], _, h => by unfold RepF at h ⊢; exact h
  | x :: xs, _, h => by
    unfold RepF at h ⊢
    obtain ⟨v, r, e, q, t⟩ := h
    exact ⟨v, r, e, Rep.mono hk hG q, RepF.mono hk hG t⟩
end
theorem RepL.length : ∀ {xs : List Val} {vs : List V}, RepL K mg κ G xs vs → vs.length = xs.length
  | [], _, h => by unfold RepL at h; subst h; rfl
  | x :: xs, _, h => by
    unfold RepL at h
    obtain ⟨v, r, e, _, t⟩ := h
    subst e
    simp [RepL.length t]
theorem RepL.get : ∀ {xs : List Val} {vs : List V}, RepL K mg κ G xs vs → ∀ {i : Nat} {x : Val}, xs[i]? = some x → ∃ v, vs[i]? = some v ∧ Rep K mg κ G x v
  | [], _, _, i, x, e => by simp at e
  | y :: xs, _, h, 0, x, e => by
    unfold RepL at h
    obtain ⟨v, r, e', q, t⟩ := h
    subst e'
    simp at e; subst e
    exact ⟨v, rfl, q⟩
  | y :: xs, _, h, i + 1, x, e => by
    unfold RepL at h
    obtain ⟨v, r, e', q, t⟩ := h
    subst e'
    simpa using RepL.get t (i := i) (by simpa using e)
theorem RepL.append : ∀ {xs ys : List Val} {vs ws : List V}, RepL K mg κ G xs vs → RepL K mg κ G ys ws → RepL K mg κ G (xs ++ ys) (vs ++ ws)
  | [], _, _, _, h, h' => by unfold RepL at h; subst h; exact h'
  | y :: xs, _, _, _, h, h' => by
    unfold RepL at h
    obtain ⟨v, r, e', q, t⟩ := h
    subst e'
    show RepL K mg κ G (y :: (xs ++ _)) (v :: (r ++ _))
    unfold RepL
    exact ⟨v, _, rfl, q, RepL.append t h'⟩
theorem RepL.nil : RepL K mg κ G [] [] := by unfold RepL; rfl
theorem RepL.cons {x : Val} {v : V} {xs : List Val} {vs : List V} (h : Rep K mg κ G x v) (t : RepL K mg κ G xs vs) : RepL K mg κ G (x :: xs) (v :: vs) := by
  unfold RepL; exact ⟨v, vs, rfl, h, t⟩
end
end Tv

namespace Tv
open PySem L2

section
variable (K : PySem.W.Frag) (mg : Str → Option Value)
/-- a cell's content -/
def CRep (κ : List Addr) (G H : Hp) (a : Addr) : Val → Prop
  | .lst xs => ∃ vs, H a = some (.lst vs) ∧ RepL K mg κ G xs vs
  | .obj C fs => ∃ Ca dx vs, mg C = some (.ref Ca) ∧ H a = some (.ins Ca dx vs) ∧ RepF K mg κ G fs vs
  | .dic kvs => ∃ vs, H a = some (.dK vs) ∧ RepD K mg κ G kvs vs
  | _ => False
structure Wd (κ : List Addr) (G H : Hp) (S : Cells) : Prop where
  le : Le G H
  nd : κ.Nodup
  ap : ∀ a ∈ κ, G a = none
  len : κ.length = S.length
  cel : ∀ (n : Nat) a c, κ[n]? = some a → S[n]? = some c → CRep K mg κ G H a c
/-- from one state to a later one -/
structure Ext (κ : List Addr) (G H : Hp) (κ' : List Addr) (G' H' : Hp) (S' : Cells) : Prop where
  pre : Pre κ κ'
  le : Le G G'
  keep : ∀ a o, H a = some o → a ∉ κ → H' a = some o
  newG : ∀ a, H a ≠ none → G a = none → G' a = none
  newC : ∀ a ∈ κ', a ∉ κ → H a = none
  w : Wd K mg κ' G' H' S'
/-- the same, with no cell touched if p -/
structure ExtB (p : Bool) (κ : List Addr) (G H : Hp) (S : Cells) (κ' : List Addr) (G' H' : Hp) (S' : Cells) : Prop where
  e : Ext K mg κ G H κ' G' H' S'
  p : p = true → κ' = κ ∧ S' = S ∧ Le H H'
end
section
variable {K : PySem.W.Frag} {mg : Str → Option Value} {κ κ1 κ2 : List Addr} {G G1 G2 H H1 H2 : Hp} {S S1 S2 : Cells}
theorem CRep.there {a : Addr} : ∀ {c : Val}, CRep K mg κ G H a c → H a ≠ none
  | .lst xs, h => by obtain ⟨vs, e, _⟩ := h; rw [e]; exact fun z => nomatch z
  | .obj C fs, h => by obtain ⟨_, _, vs, _, e, _⟩ := h; rw [e]; exact fun z => nomatch z
  | .dic kvs, h => by obtain ⟨vs, e, _⟩ := h; rw [e]; exact fun z => nomatch z
  | .non, h => h.elim
  | .bl _, h => h.elim
  | .int _, h => h.elim
  | .str _, h => h.elim
  | .tup _, h => h.elim
  | .cell _, h => h.elim
  | .scr _, h => h.elim
theorem Wd.there (w : Wd K mg κ G H S) {a : Addr} (h : a ∈ κ) : H a ≠ none := by
  obtain ⟨n, hn⟩ := List.mem_iff_getElem?.mp h
  have hl : n < S.length := by
    have := (List.getElem?_eq_some_iff.mp hn).1
    rw [w.len] at this; exact this
  exact (w.cel n a _ hn (List.getElem?_eq_getElem hl)).there
theorem Pre.mem (h : Pre κ κ1) {a : Addr} (m : a ∈ κ) : a ∈ κ1 := by
  obtain ⟨n, hn⟩ := List.mem_iff_getElem?.mp m
  exact List.mem_iff_getElem?.mpr ⟨n, h n a hn⟩
theorem Ext.refl (w : Wd K mg κ G H S) : Ext K mg κ G H κ G H S :=
  ⟨Pre.refl _, Le.refl _, fun _ _ h _ => h, fun _ _ h => h, fun _ h n => absurd h n, w⟩
theorem Ext.trans (a : Ext K mg κ G H κ1 G1 H1 S1) (b : Ext K mg κ1 G1 H1 κ2 G2 H2 S2) : Ext K mg κ G H κ2 G2 H2 S2 where
  pre := a.pre.trans b.pre
  le := a.le.trans b.le
  keep := fun x o h n => b.keep x o (a.keep x o h n) fun m => by
    rw [a.newC x m n] at h; cases h
  newG := fun x h g => b.newG x (by
    by_cases m : x ∈ κ
    · exact a.w.there (a.pre.mem m)
    · intro z
      cases e : H x with
      | none => exact h e
      | some o => rw [a.keep x o e m] at z; cases z) (a.newG x h g)
  newC := fun x m n => by
    by_cases q : x ∈ κ1
    · exact a.newC x q n
    · have z := b.newC x m q
      cases e : H x with
      | none => rfl
      | some o => rw [a.keep x o e n] at z; cases z
  w := b.w
theorem ExtB.refl {p : Bool} (w : Wd K mg κ G H S) : ExtB K mg p κ G H S κ G H S := ⟨Ext.refl w, fun _ => ⟨rfl, rfl, Le.refl _⟩⟩
theorem ExtB.trans {p : Bool} (a : ExtB K mg p κ G H S κ1 G1 H1 S1) (b : ExtB K mg p κ1 G1 H1 S1 κ2 G2 H2 S2) : ExtB K mg p κ G H S κ2 G2 H2 S2 :=
  ⟨a.e.trans b.e, fun h => by
    obtain ⟨a1, a2, a3⟩ := a.p h
    obtain ⟨b1, b2, b3⟩ := b.p h
    exact ⟨b1.trans a1, b2.trans a2, a3.trans b3⟩⟩
theorem ExtB.weak {p : Bool} (a : ExtB K mg p κ G H S κ1 G1 H1 S1) : ExtB K mg false κ G H S κ1 G1 H1 S1 := ⟨a.e, fun z => nomatch z⟩
end

/-! ### the slots of a frame -/
inductive Slot where
  | un
  | fz (x : Val)
  | o1 (xs : List Val)
  | o2 (xss : List (List Val))
  | od (kvs : List (Key × Val))
  | oi (C : Str) (fs : List (Str × Val))
  deriving Inhabited
abbrev Env := List Slot
section
variable (K : PySem.W.Frag) (mg : Str → Option Value)
def Rows (κ : List Addr) (G H : Hp) : List (List Val) → List Addr → Prop
  | [], as => as = []
  | xs :: xss, as => ∃ a r vs, as = a :: r ∧ H a = some (.lst vs) ∧ RepL K mg κ G xs vs ∧ Rows κ G H xss r
def SlotOk (κ : List Addr) (G H : Hp) : Slot → Option V → List Addr → Prop
  | .un, _, L => L = []
  | .fz x, ov, L => L = [] ∧ ∃ v, ov = some v ∧ Rep K mg κ G x v
  | .o1 xs, ov, L => ∃ a vs, L = [a] ∧ ov = some (.ref a) ∧ H a = some (.lst vs) ∧ RepL K mg κ G xs vs
  | .o2 xss, ov, L => ∃ a as, L = a :: as ∧ ov = some (.ref a) ∧ H a = some (.lst (as.map .ref)) ∧ Rows K mg κ G H xss as
  | .od kvs, ov, L => ∃ a vs, L = [a] ∧ ov = some (.ref a) ∧ H a = some (.dK vs) ∧ RepD K mg κ G kvs vs
  | .oi C fs, ov, L => ∃ a Ca dx vs, L = [a] ∧ ov = some (.ref a) ∧ mg C = some (.ref Ca) ∧ H a = some (.ins Ca dx vs) ∧ RepF K mg κ G fs vs
def SlotsOk (κ : List Addr) (G H : Hp) : Env → St → List Addr → Prop
  | [], σ, L => σ = [] ∧ L = []
  | s :: E, σ, L => ∃ ov r L1 L2, σ = ov :: r ∧ L = L1 ++ L2 ∧ SlotOk K mg κ G H s ov L1 ∧ SlotsOk κ G H E r L2
/-- where a body was entered; what is frozen for good -/
structure Bs where
  κ : List Addr
  G : Hp
  H : Hp
  S : Cells
  κf : List Addr
  Gf : Hp
structure ExtS (b : Bool) (B0 : Bs) (κ : List Addr) (G H : Hp) (S : Cells) : Prop where
  x : ExtB K mg b B0.κ B0.G B0.H B0.S κ G H S
  pf : Pre B0.κf κ
  lf : Le B0.Gf G
/-- the state of a body: entered at B0 -/
def Sat (b : Bool) (B0 : Bs) (E : Env) (S : Cells) (κ : List Addr) (G : Hp) (σ : St) (H : Hp) : Prop :=
  ExtS K mg b B0 κ G H S ∧ ∃ L, SlotsOk K mg κ G H E σ L ∧ L.Nodup ∧ ∀ a ∈ L, B0.H a = none ∧ G a = none ∧ a ∉ κ ∧ H a ≠ none
end
section
variable {K : PySem.W.Frag} {mg : Str → Option Value} {κ κ1 κ2 : List Addr} {G G1 G2 H H1 H2 : Hp} {S S1 S2 : Cells}
theorem Rows.mono (hk : Pre κ κ1) (hG : Le G G1) : ∀ {xss : List (List Val)} {as : List Addr}, Rows K mg κ G H xss as → (∀ a ∈ as, H1 a = H a) → Rows K mg κ1 G1 H1 xss as
  | [], _, h, _ => h
  | xs :: xss, _, h, q => by
    obtain ⟨a, r, vs, e, e1, e2, e3⟩ := h
    subst e
    exact ⟨a, r, vs, rfl, (q a (by simp)).trans e1, e2.mono hk hG, Rows.mono hk hG e3 fun b hb => q b (by simp [hb])⟩
theorem SlotOk.mono (hk : Pre κ κ1) (hG : Le G G1) : ∀ {s : Slot} {ov : Option V} {L : List Addr}, SlotOk K mg κ G H s ov L → (∀ a ∈ L, H1 a = H a) → SlotOk K mg κ1 G1 H1 s ov L
  | .un, _, _, h, _ => h
  | .fz x, _, _, ⟨e, v, h, r⟩, _ => ⟨e, v, h, r.mono hk hG⟩
  | .o1 xs, _, _, h, q => by
    obtain ⟨a, vs, e, e1, e2, e3⟩ := h
    subst e
    exact ⟨a, vs, rfl, e1, (q a (by simp)).trans e2, e3.mono hk hG⟩
  | .o2 xss, _, _, h, q => by
    obtain ⟨a, vs, e, e1, e2, e3⟩ := h
    subst e
    exact ⟨a, vs, rfl, e1, (q a (by simp)).trans e2, e3.mono hk hG fun b hb => q b (by simp [hb])⟩
  | .od xs, _, _, h, q => by
    obtain ⟨a, vs, e, e1, e2, e3⟩ := h
    subst e
    exact ⟨a, vs, rfl, e1, (q a (by simp)).trans e2, e3.mono hk hG⟩
  | .oi C xs, _, _, h, q => by
    obtain ⟨a, Ca, dx, vs, e, e1, c, e2, e3⟩ := h
    subst e
    exact ⟨a, Ca, dx, vs, rfl, e1, c, (q a (by simp)).trans e2, e3.mono hk hG⟩
theorem SlotsOk.mono (hk : Pre κ κ1) (hG : Le G G1) : ∀ {E : Env} {σ : St} {L : List Addr}, SlotsOk K mg κ G H E σ L → (∀ a ∈ L, H1 a = H a) → SlotsOk K mg κ1 G1 H1 E σ L
  | [], _, _, h, _ => h
  | s :: E, _, _, h, q => by
    obtain ⟨ov, r, L1, L2, e1, e2, h1, h2⟩ := h
    subst e1 e2
    exact ⟨ov, r, L1, L2, rfl, rfl, h1.mono hk hG fun a m => q a (by simp [m]), SlotsOk.mono hk hG h2 fun a m => q a (by simp [m])⟩
variable {b : Bool} {B0 : Bs} {E : Env} {σ : St}
/-- an expression has been evaluated -/
theorem ExtS.trans (a : ExtS K mg b B0 κ G H S) (c : ExtB K mg b κ G H S κ1 G1 H1 S1) : ExtS K mg b B0 κ1 G1 H1 S1 := ⟨a.x.trans c, a.pf.trans c.e.pre, a.lf.trans c.e.le⟩
theorem ExtS.weak (a : ExtS K mg b B0 κ G H S) : ExtS K mg false B0 κ G H S := ⟨a.x.weak, a.pf, a.lf⟩
theorem Sat.ext (h : Sat K mg b B0 E S κ G σ H) (eb : ExtB K mg b κ G H S κ1 G1 H1 S1) : Sat K mg b B0 E S1 κ1 G1 σ H1 := by
  obtain ⟨x, L, so, nd, q⟩ := h
  have e := eb.e
  refine ⟨x.trans eb, L, so.mono e.pre e.le fun a m => ?_, nd, fun a m => ?_⟩
  · obtain ⟨_, _, n, t⟩ := q a m
    cases z : H a with
    | none => exact absurd z t
    | some o => exact e.keep a o z n
  · obtain ⟨q1, q2, q3, q4⟩ := q a m
    refine ⟨q1, e.newG a q4 q2, fun z => q4 (e.newC a z q3), fun z => ?_⟩
    cases y : H a with
    | none => exact q4 y
    | some o => rw [e.keep a o y q3] at z; cases z
theorem SlotsOk.get : ∀ {E : Env} {σ : St} {L : List Addr}, SlotsOk K mg κ G H E σ L → ∀ {i : Nat} {s : Slot}, E[i]? = some s → ∃ ov L1, σ[i]? = some ov ∧ SlotOk K mg κ G H s ov L1 ∧ (∀ a ∈ L1, a ∈ L)
  | [], _, _, _, i, s, e => by simp at e
  | s :: E, _, _, h, 0, t, e => by
    obtain ⟨ov, r, L1, L2, e1, e2, h1, h2⟩ := h
    subst e1 e2
    simp at e; subst e
    exact ⟨ov, L1, rfl, h1, fun a m => by simp [m]⟩
  | s :: E, _, _, h, i + 1, t, e => by
    obtain ⟨ov, r, L1, L2, e1, e2, h1, h2⟩ := h
    subst e1 e2
    obtain ⟨ov', L', q1, q2, q3⟩ := SlotsOk.get h2 (i := i) (by simpa using e)
    exact ⟨ov', L', by simpa using q1, q2, fun a m => by simp [q3 a m]⟩
/-- a slot is set anew, what it owned is let go -/
theorem SlotsOk.set : ∀ {E : Env} {σ : St} {L : List Addr}, SlotsOk K mg κ G H E σ L → ∀ {i : Nat} {s : Slot} {ov : Option V} {L1 : List Addr}, i < E.length → SlotOk K mg κ G H s ov L1 →
    ∃ L2, SlotsOk K mg κ G H (E.set i s) (σ.set i ov) L2 ∧ ((∀ a ∈ L1, a ∉ L) → L1.Nodup → L.Nodup → L2.Nodup) ∧ (∀ a ∈ L2, a ∈ L ∨ a ∈ L1)
  | [], _, _, _, i, _, _, _, hi, _ => by simp at hi
  | s :: E, _, _, h, 0, t, ov', L', hi, h' => by
    obtain ⟨ov, r, L1, L2, e1, e2, h1, h2⟩ := h
    subst e1 e2
    refine ⟨L' ++ L2, ⟨ov', r, L', L2, rfl, rfl, h', h2⟩, fun q n m => ?_, fun a m => ?_⟩
    · refine List.nodup_append.mpr ⟨n, (List.nodup_append.mp m).2.1, fun a ha b hb e => ?_⟩
      subst e
      exact q a ha (by simp [hb])
    · rcases List.mem_append.mp m with m | m
      · exact .inr m
      · exact .inl (by simp [m])
  | s :: E, _, _, h, i + 1, t, ov', L', hi, h' => by
    obtain ⟨ov, r, L1, L2, e1, e2, h1, h2⟩ := h
    subst e1 e2
    obtain ⟨L3, q1, q2, q3⟩ := SlotsOk.set h2 (i := i) (by simpa using hi) h'
    refine ⟨L1 ++ L3, ⟨ov, r.set i ov', L1, L3, rfl, rfl, h1, q1⟩, fun q n m => ?_, fun a m => ?_⟩
    · obtain ⟨m1, m2, m3⟩ := List.nodup_append.mp m
      refine List.nodup_append.mpr ⟨m1, q2 (fun a ha hb => q a ha (by simp [hb])) n m2, fun a ha b hb e => ?_⟩
      subst e
      rcases q3 a hb with z | z
      · exact m3 a ha a z rfl
      · exact q a z (by simp [ha])
    · rcases List.mem_append.mp m with m | m
      · exact .inl (by simp [m])
      · rcases q3 a m with z | z
        · exact .inl (by simp [z])
        · exact .inr z
theorem SlotsOk.length : ∀ {E : Env} {σ : St} {L : List Addr}, SlotsOk K mg κ G H E σ L → σ.length = E.length
  | [], _, _, h => by rw [h.1]; rfl
  | s :: E, _, _, h => by
    obtain ⟨ov, r, L1, L2, e1, e2, h1, h2⟩ := h
    subst e1
    simp [SlotsOk.length h2]
theorem Sat.weak (h : Sat K mg b B0 E S κ G σ H) : Sat K mg false B0 E S κ G σ H := by
  obtain ⟨x, r⟩ := h
  exact ⟨x.weak, r⟩
theorem Sat.w (h : Sat K mg b B0 E S κ G σ H) : Wd K mg κ G H S := h.1.x.e.w
/-- a name takes a frozen value -/
theorem Sat.setFz (h : Sat K mg b B0 E S κ G σ H) {i : Nat} {x : Val} {v : V} (hi : i < E.length) (r : Rep K mg κ G x v) : Sat K mg b B0 (E.set i (.fz x)) S κ G (σ.set i (some v)) H := by
  obtain ⟨e, L, so, nd, q⟩ := h
  obtain ⟨L2, s2, n2, m2⟩ := so.set (i := i) (s := .fz x) (ov := some v) (L1 := []) hi ⟨rfl, v, rfl, r⟩
  exact ⟨e, L2, s2, n2 (fun _ z => nomatch z) List.nodup_nil nd, fun a m => (m2 a m).elim (q a) fun z => nomatch z⟩
/-- what is known of a slot is forgotten -/
theorem Sat.forget (h : Sat K mg b B0 E S κ G σ H) {i : Nat} : Sat K mg b B0 (E.set i .un) S κ G σ H := by
  obtain ⟨e, L, so, nd, q⟩ := h
  by_cases hi : i < E.length
  · have hs : i < σ.length := by rw [so.length]; exact hi
    obtain ⟨L2, s2, n2, m2⟩ := so.set (i := i) (s := .un) (ov := σ[i]) (L1 := []) hi rfl
    rw [List.set_getElem_self] at s2
    exact ⟨e, L2, s2, n2 (fun _ z => nomatch z) List.nodup_nil nd, fun a m => (m2 a m).elim (q a) fun z => nomatch z⟩
  · rw [List.set_eq_of_length_le (by omega)]
    exact ⟨e, L, so, nd, q⟩
end
end Tv

namespace Tv
open PySem L2

/-- an exception that no one lets out -/
def noExn {α : Type} (r : M α) : M α := fun S => match r S with
  | (.exn _ _, S') => (.stuck, S')
  | q => q
def noExnR {α : Type} : Res α → Res α
  | .exn _ _ => .stuck
  | q => q
/-- the two kinds of pieces: without and with cells -/
class Mon (m : Type → Type) extends Monad m where
  run : {α : Type} → m α → M α
  run_pure : ∀ {α : Type} (a : α), run (Pure.pure a) = (Pure.pure a : M α)
  run_bind : ∀ {α β : Type} (x : m α) (f : α → m β), run (x >>= f) = (run x >>= fun a => run (f a))
  of : {α : Type} → Res α → m α
  run_of : ∀ {α : Type} (r : Res α), run (of r) = lift r
  nx : {α : Type} → m α → m α
  run_nx : ∀ {α : Type} (r : m α), run (nx r) = noExn (run r)
  pu : Bool
theorem lift_bind {α β : Type} (x : Res α) (f : α → Res β) : lift (x >>= f) = (lift x >>= fun a => lift (f a)) := by
  funext S
  cases x <;> rfl
instance : Mon Res where
  run := lift
  run_pure := fun _ => rfl
  run_bind := lift_bind
  of := id
  run_of := fun _ => rfl
  nx := noExnR
  run_nx := fun r => by funext S; cases r <;> rfl
  pu := true
instance : Mon M where
  run := id
  run_pure := fun _ => rfl
  run_bind := fun _ _ => rfl
  of := lift
  run_of := fun _ => rfl
  nx := noExn
  run_nx := fun _ => rfl
  pu := false

section
variable (K : PySem.W.Frag) (mg : Str → Option Value)
/-- an exception: its class by name, its fields -/
def ERep (κ : List Addr) (G : Hp) (c : Str) (fs : List (Str × Val)) (cls : Value) (d : Option Addr) : Prop :=
  ∃ C, mg c = some (.ref C) ∧ cls = .ref C ∧ ((fs = [] ∧ d = none) ∨ ∃ dx vs, d = some dx ∧ G dx = some (.xd vs) ∧ RepF K mg κ G fs vs)
def Post {α γ : Type} (p : Bool) (R : List Addr → Hp → α → γ → Prop) (κ : List Addr) (G H : Hp) (S : Cells) (r : Res α × Cells) (Q : γ → Hp → Prop) (W : Value → Option Addr → Hp → Prop) : Prop :=
  match r with
  | (.ok x, S') => ∀ κ' G' H' v, ExtB K mg p κ G H S κ' G' H' S' → R κ' G' x v → Q v H'
  | (.exn c fs, S') => ∀ κ' G' H' cls d, ExtB K mg p κ G H S κ' G' H' S' → ERep K mg κ' G' c fs cls d → W cls d H'
  | (.stuck, _) => False
end
section
variable {K : PySem.W.Frag} {mg : Str → Option Value} {κ κ1 κ2 : List Addr} {G G1 G2 H H1 H2 : Hp} {S S1 S2 : Cells} {p : Bool}
variable {α β γ δ : Type} {R : List Addr → Hp → α → γ → Prop} {R2 : List Addr → Hp → β → δ → Prop} {Q : γ → Hp → Prop} {Q2 : δ → Hp → Prop} {W : Value → Option Addr → Hp → Prop}
theorem Post.step {r : Res α × Cells} (e : ExtB K mg p κ G H S κ1 G1 H1 S1) (h : Post K mg p R κ G H S r Q W) : Post K mg p R κ1 G1 H1 S1 r Q W := by
  obtain ⟨r, S'⟩ := r
  cases r with
  | ok x => exact fun κ' G' H' v e' => h κ' G' H' v (e.trans e')
  | exn c fs => exact fun κ' G' H' cls d e' => h κ' G' H' cls d (e.trans e')
  | stuck => exact h
theorem Post.bind {m : M α} {f : α → M β} (h : Post K mg p R2 κ G H S ((m >>= f) S) Q2 W) :
    Post K mg p R κ G H S (m S) (fun v H1 => ∃ x κ1 G1 S1, ExtB K mg p κ G H S κ1 G1 H1 S1 ∧ R κ1 G1 x v ∧ Post K mg p R2 κ1 G1 H1 S1 (f x S1) Q2 W) W := by
  have e : (m >>= f) S = M.bind m f S := rfl
  rw [e] at h
  unfold M.bind at h
  cases q : m S with
  | mk r S' =>
    rw [q] at h
    cases r with
    | ok x => exact fun κ' G' H' v e' r' => ⟨x, κ', G', S', e', r', Post.step e' h⟩
    | exn c fs => exact h
    | stuck => exact h
theorem Post.ok {x : α} {v : γ} (w : Wd K mg κ G H S) (r : R κ G x v) (h : Post K mg p R κ G H S (.ok x, S) Q W) : Q v H := h κ G H v (ExtB.refl w) r
end

/-! ### readings by what they mean -/
structure WE (X : Cx) (e : Expr) (σ : St) (H : Hp) (Q : VK) : Prop where
  run : ∀ (pins : List (Addr × Obj)) (s : Shared), L2.Inv X pins σ H s → wpAny (model X.prog X.w) X.A (eval e X.env) (EP X pins σ Q) X.xe s
theorem pe_self {X : Cx} {e : Expr} : PE X e (WE X e) := ⟨fun pins s _ _ _ I h => h.run pins s I⟩
theorem we_of {X : Cx} {e : Expr} {t : TE} (h : PE X e t) {σ : St} {H : Hp} {Q : VK} (q : t σ H Q) : WE X e σ H Q := ⟨fun pins s I => h.run pins s σ H Q I q⟩
structure WT (X : Cx) (e : Expr) (σ : St) (H : Hp) (Q : Bool → Hp → Prop) : Prop where
  run : ∀ (pins : List (Addr × Obj)) (s : Shared), L2.Inv X pins σ H s → wpAny (model X.prog X.w) X.A (isTrue e X.env (eval e X.env)) (TP X pins σ Q) X.xe s
theorem pt_self {X : Cx} {e : Expr} : PT X e (WT X e) := ⟨fun pins s _ _ _ I h => h.run pins s I⟩
theorem wt_of {X : Cx} {e : Expr} {t : TT} (h : PT X e t) {σ : St} {H : Hp} {Q : Bool → Hp → Prop} (q : t σ H Q) : WT X e σ H Q := ⟨fun pins s I => h.run pins s σ H Q I q⟩
structure WA (X : Cx) (es : List Expr) (σ : St) (H : Hp) (Q : List V → Hp → Prop) : Prop where
  run : ∀ (pos : Pos) (pins : List (Addr × Obj)) (s : Shared), L2.Inv X pins σ H s → wpAny (model X.prog X.w) X.A (spliced (backTo pos (starEach es X.env))) (AP X pins σ Q) X.xe s
theorem pa_self {X : Cx} {e : List Expr} : PA X e (WA X e) := ⟨fun pos pins s _ _ _ I h => h.run pos pins s I⟩
theorem wa_of {X : Cx} {e : List Expr} {t : TA} (h : PA X e t) {σ : St} {H : Hp} {Q : List V → Hp → Prop} (q : t σ H Q) : WA X e σ H Q := ⟨fun pos pins s I => h.run pos pins s σ H Q I q⟩
structure WS (X : Cx) (st : Stmt) (D : Ends) (σ : St) (H : Hp) : Prop where
  run : ∀ (pins : List (Addr × Obj)) (s : Shared), L2.Inv X pins σ H s → wpAny (model X.prog X.w) X.A (exec st X.env) (SP X pins D) X.xe s
theorem ps_self {X : Cx} {e : Stmt} : PS X e (WS X e) := ⟨fun pins s _ _ _ I h => h.run pins s I⟩
theorem ws_of {X : Cx} {e : Stmt} {t : TS} (h : PS X e t) {σ : St} {H : Hp} {D : Ends} (q : t D σ H) : WS X e D σ H := ⟨fun pins s I => h.run pins s σ H D I q⟩
structure WSs (X : Cx) (st : List Stmt) (D : Ends) (σ : St) (H : Hp) : Prop where
  run : ∀ (pins : List (Addr × Obj)) (s : Shared), L2.Inv X pins σ H s → wpAny (model X.prog X.w) X.A (execs st X.env) (SP X pins D) X.xe s
theorem pss_self {X : Cx} {e : List Stmt} : PSs X e (WSs X e) := ⟨fun pins s _ _ _ I h => h.run pins s I⟩
theorem wss_of {X : Cx} {e : List Stmt} {t : TS} (h : PSs X e t) {σ : St} {H : Hp} {D : Ends} (q : t D σ H) : WSs X e D σ H := ⟨fun pins s I => h.run pins s σ H D I q⟩
/-- an operation on values -/
def WO (X : Cx) (f : Value → Value → Sem Value) : R2 := fun x y H Q => ∀ (pins : List (Addr × Obj)) (s : Shared) (σ : St) (v u : Value), L2.Inv X pins σ H s → RelV x v → RelV y u → wpAny (model X.prog X.w) X.A (f v u) (EP X pins σ Q) X.xe s
theorem op_self {X : Cx} {f : Value → Value → Sem Value} : OpR X f (WO X f) := fun pins s σ H x y v u Q I rx ry h => h pins s σ v u I rx ry
theorem wo_of {X : Cx} {f : Value → Value → Sem Value} {r : R2} (h : OpR X f r) {x y : V} {H : Hp} {Q : VK} (q : r x y H Q) : WO X f x y H Q := fun pins s σ v u I rx ry => h pins s σ H x y v u Q I rx ry q
def WU (X : Cx) (f : Value → Sem Value) : V → Hp → VK → Prop := fun x H Q => ∀ (pins : List (Addr × Obj)) (s : Shared) (σ : St) (v : Value), L2.Inv X pins σ H s → RelV x v → wpAny (model X.prog X.w) X.A (f v) (EP X pins σ Q) X.xe s
theorem un_self {X : Cx} {f : Value → Sem Value} : UnR X f (WU X f) := fun pins s σ H x v Q I rx h => h pins s σ v I rx
theorem wu_of {X : Cx} {f : Value → Sem Value} {r : V → Hp → VK → Prop} (h : UnR X f r) {x : V} {H : Hp} {Q : VK} (q : r x H Q) : WU X f x H Q := fun pins s σ v I rx => h pins s σ H x v Q I rx q
/-- a call of a known value -/
def WC (X : Cx) (f : Value) : List V → Hp → VK → Prop := fun xs H Q => ∀ (pins : List (Addr × Obj)) (s : Shared) (σ : St) (us : List Value), L2.Inv X pins σ H s → Vals xs us → wpAny (model X.prog X.w) X.A (call f us) (EP X pins σ Q) X.xe s
theorem call_self {X : Cx} {f : Value} : CallR X f (WC X f) := fun pins s σ H xs us Q I r h => h pins s σ us I r
theorem wc_of {X : Cx} {f : Value} {r : List V → Hp → VK → Prop} (h : CallR X f r) {xs : List V} {H : Hp} {Q : VK} (q : r xs H Q) : WC X f xs H Q := fun pins s σ us I rx => h pins s σ H xs us Q I rx q
/-- a value's truth -/
def WB (X : Cx) : V → Hp → (Bool → Hp → Prop) → Prop := fun x H Q => ∀ (pins : List (Addr × Obj)) (s : Shared) (σ : St) (v : Value), L2.Inv X pins σ H s → RelV x v → wpAny (model X.prog X.w) X.A (truthy v) (TP X pins σ Q) X.xe s
theorem tru_self {X : Cx} : TruR X (WB X) := fun pins s σ H x v Q I rx h => h pins s σ v I rx
theorem wb_of {X : Cx} {r : V → Hp → (Bool → Hp → Prop) → Prop} (h : TruR X r) {x : V} {H : Hp} {Q : Bool → Hp → Prop} (q : r x H Q) : WB X x H Q := fun pins s σ v I rx => h pins s σ H x v Q I rx q

/-! ### the judgements -/
section
variable {m : Type → Type} [Mon m]
abbrev RB : List Addr → Hp → Bool → Bool → Prop := fun _ _ a b => a = b
/-- from slots E the expression e comes to r -/
def Ev (X : Cx) (E : Env) (e : Expr) (r : m Val) : Prop :=
  ∀ B0 S κ G σ H, Sat X.K X.mg false B0 E S κ G σ H → ∀ W : WX, Takes X W → ∀ Q : VK, Post X.K X.mg (Mon.pu m) (Rep X.K X.mg) κ G H S (Mon.run r S) Q (fun c d H' => W c d σ H') → WE X e σ H Q
def Et (X : Cx) (E : Env) (e : Expr) (r : m Bool) : Prop :=
  ∀ B0 S κ G σ H, Sat X.K X.mg false B0 E S κ G σ H → ∀ W : WX, Takes X W → ∀ Q : Bool → Hp → Prop, Post X.K X.mg (Mon.pu m) RB κ G H S (Mon.run r S) Q (fun c d H' => W c d σ H') → WT X e σ H Q
def Ea (X : Cx) (E : Env) (es : List Expr) (r : m (List Val)) : Prop :=
  ∀ B0 S κ G σ H, Sat X.K X.mg false B0 E S κ G σ H → ∀ W : WX, Takes X W → ∀ Q : List V → Hp → Prop, Post X.K X.mg (Mon.pu m) (RepL X.K X.mg) κ G H S (Mon.run r S) Q (fun c d H' => W c d σ H') → WA X es σ H Q
inductive Out where
  | nx (E : Env)
  | rt (x : Val)
  | rr (x : Val)
  | bk (E : Env)
  | ct (E : Env)
def PostO (K : PySem.W.Frag) (mg : Str → Option Value) (p : Bool) (B0 : Bs) (S' : Cells) (D : Ends) : Out → Prop
  | .nx E' => ∀ κ G σ H, Sat K mg p B0 E' S' κ G σ H → D.nx σ H
  | .bk E' => ∀ κ G σ H, Sat K mg p B0 E' S' κ G σ H → D.bk σ H
  | .ct E' => ∀ κ G σ H, Sat K mg p B0 E' S' κ G σ H → D.ct σ H
  | .rt x => ∀ κ G H v, ExtS K mg p B0 κ G H S' → Rep K mg κ G x v → D.rt v H
  | .rr x => (∀ κ G H v, ExtS K mg p B0 κ G H S' → Rep K mg κ G x v → D.rt v H) ∧ (x = .non → ∀ κ G σ H, ExtS K mg p B0 κ G H S' → D.nx σ H)
def PostS {ρ : Type} (K : PySem.W.Frag) (mg : Str → Option Value) (p : Bool) (B0 : Bs) (r : Res ρ × Cells) (enc : ρ → Out) (D : Ends) (W : WX) : Prop :=
  match r with
  | (.ok x, S') => PostO K mg p B0 S' D (enc x)
  | (.exn c fs, S') => ∀ κ G σ H cls d, ExtS K mg p B0 κ G H S' → ERep K mg κ G c fs cls d → W cls d σ H
  | (.stuck, _) => False
/-- blocks still to come -/
def DK (X : Cx) : List (List Stmt) → Ends → Ends
  | [], D => D
  | ss :: K, D => { DK X K D with nx := WSs X ss (DK X K D) }
/-- from slots E the block ss, then the blocks Ks, come to r, told by enc -/
def Sx {ρ : Type} (X : Cx) (E : Env) (ss : List Stmt) (Ks : List (List Stmt)) (r : m ρ) (enc : ρ → Out) : Prop :=
  ∀ B0 S κ G σ H, Sat X.K X.mg (Mon.pu m) B0 E S κ G σ H → ∀ W : WX, Takes X W → ∀ D : Ends, PostS X.K X.mg (Mon.pu m) B0 (Mon.run r S) enc D W → WSs X ss (DK X Ks D) σ H
end
theorem DK_rt {X : Cx} {D : Ends} : ∀ {Ks : List (List Stmt)}, (DK X Ks D).rt = D.rt
  | [] => rfl
  | _ :: Ks => DK_rt (Ks := Ks)
theorem DK_bk {X : Cx} {D : Ends} : ∀ {Ks : List (List Stmt)}, (DK X Ks D).bk = D.bk
  | [] => rfl
  | _ :: Ks => DK_bk (Ks := Ks)
theorem DK_ct {X : Cx} {D : Ends} : ∀ {Ks : List (List Stmt)}, (DK X Ks D).ct = D.ct
  | [] => rfl
  | _ :: Ks => DK_ct (Ks := Ks)
end Tv

namespace Tv
open PySem L2

/-! ### where a body stands -/
structure Ctx (X : Cx) (N : List Str) (sc : Scope) (k : Nat) : Prop where
  n : X.N = N
  sc : X.env.scope = sc
  calm : X.calm = true
  nd : N.Nodup
  gd : X.A.guards = some []
  room : Room k X.A
  po : PassesOwn (model X.prog X.w) X.A X.env X.xe
/-- .. a def's own frame: its cells are its own, too -/
structure CtxF (X : Cx) (N : List Str) (sc : Scope) (k : Nat) : Prop extends Ctx X N sc k where
  fn : ∀ x, X.fn x = true
def visB (sc : Scope) (x : Str) : Bool := match sc.names.lookup x with
  | some .local => true
  | some .cell => true
  | some .free => true
  | _ => false
theorem visB_ok {sc : Scope} {x : Str} (h : visB sc x = true) : Vis sc x := by
  unfold visB at h
  unfold Vis
  cases e : sc.names.lookup x with
  | none => rw [e] at h; cases h
  | some k =>
    rw [e] at h
    cases k <;> first
      | exact .inl rfl
      | exact .inr (.inl rfl)
      | exact .inr (.inr rfl)
      | cases h
def nmB (N : List Str) (sc : Scope) (i : Nat) (x : Str) : Bool := decide (N[i]? = some x) && visB sc x && !(x == ("__debug__" : Str)) && !(x == ("__classdict__" : Str))
structure Nm (N : List Str) (sc : Scope) (i : Nat) (x : Str) : Prop where
  h : nmB N sc i x = true
theorem Nm.n {N : List Str} {sc : Scope} {i : Nat} {x : Str} (m : Nm N sc i x) : N[i]? = some x ∧ Vis sc x ∧ (x == ("__debug__" : Str)) = false ∧ (x == ("__classdict__" : Str)) = false := by
  have h := m.h
  unfold nmB at h
  simp only [Bool.and_eq_true, decide_eq_true_eq, Bool.not_eq_true'] at h
  exact ⟨h.1.1.1, visB_ok h.1.1.2, h.1.2, h.2⟩
/-- a global or built-in name -/
def glB (sc : Scope) (x : Str) : Bool := decide (sc.names.lookup x = some .globalImplicit) && !(x == ("__debug__" : Str)) && !(x == ("__name__" : Str))

section
variable {X : Cx} {N : List Str} {sc : Scope} {k : Nat} {E : Env} {m : Type → Type} [Mon m]
theorem Ctx.pv (c : Ctx X N sc k) {i : Nat} {x : Str} {pos : Pos} (hn : Nm N sc i x) : PE X (.Name x pos) (tVar i) := by
  obtain ⟨h1, h2, h3, h4⟩ := hn.n
  exact pe_var (by rw [c.n]; exact h1) (by rw [c.sc]; exact h2) h3 h4
theorem Ctx.gl (c : Ctx X N sc k) {x : Str} (h : glB sc x = true) : Gl X x ∧ (x == ("__debug__" : Str)) = false ∧ x ≠ "__name__" := by
  unfold glB at h
  simp only [Bool.and_eq_true, decide_eq_true_eq, Bool.not_eq_true'] at h
  refine ⟨?_, h.1.2, fun e => ?_⟩
  · show X.env.kindOf x = some .globalImplicit
    have : X.env.kindOf x = X.env.scope.names.lookup x := rfl
    rw [this, c.sc]; exact h.1.1
  · subst e
    have := h.2
    revert this
    decide +kernel
theorem ev_cast {e : Expr} {r r' : m Val} (h : Ev X E e r) (q : r = r') : Ev X E e r' := q ▸ h
theorem sx_cast {ρ : Type} {ss : List Stmt} {Ks : List (List Stmt)} {r r' : m ρ} {enc : ρ → Out} (h : Sx X E ss Ks r enc) (q : r = r') : Sx X E ss Ks r' enc := q ▸ h

/-! ### running in a row -/
theorem Post.pure {α γ : Type} {K : PySem.W.Frag} {mg : Str → Option Value} {p : Bool} {R : List Addr → Hp → α → γ → Prop} {κ : List Addr} {G H : Hp} {S : Cells} {x : α} {v : γ} {Q : γ → Hp → Prop} {W : Value → Option Addr → Hp → Prop}
    (h : Post K mg p R κ G H S (Mon.run (m := m) (Pure.pure x) S) Q W) (w : Wd K mg κ G H S) (r : R κ G x v) : Q v H := by
  rw [Mon.run_pure] at h
  exact h κ G H v (ExtB.refl w) r
/-- a pure piece that has gone well -/
theorem Post.ofOk {α γ : Type} {K : PySem.W.Frag} {mg : Str → Option Value} {p : Bool} {R : List Addr → Hp → α → γ → Prop} {κ : List Addr} {G H : Hp} {S : Cells} {q : Res α} {Q : γ → Hp → Prop} {W : Value → Option Addr → Hp → Prop}
    (h : Post K mg p R κ G H S (Mon.run (m := m) (Mon.of q) S) Q W) : Post K mg true R κ G H S (lift q S) Q W := by
  rw [Mon.run_of] at h
  cases q with
  | ok x => exact fun κ' G' H' v e' => h κ' G' H' v ⟨e'.e, fun _ => e'.p rfl⟩
  | exn c fs => exact fun κ' G' H' cls d e' => h κ' G' H' cls d ⟨e'.e, fun _ => e'.p rfl⟩
  | stuck => exact h
theorem bindP {α β γ δ : Type} {K : PySem.W.Frag} {mg : Str → Option Value} {p : Bool} {R : List Addr → Hp → α → γ → Prop} {R2 : List Addr → Hp → β → δ → Prop} {κ : List Addr} {G H : Hp} {S : Cells} {x : m α} {f : α → m β} {Q2 : δ → Hp → Prop} {W : Value → Option Addr → Hp → Prop}
    (h : Post K mg p R2 κ G H S (Mon.run (x >>= f) S) Q2 W) :
    Post K mg p R κ G H S (Mon.run x S) (fun v H1 => ∃ a κ1 G1 S1, ExtB K mg p κ G H S κ1 G1 H1 S1 ∧ R κ1 G1 a v ∧ Post K mg p R2 κ1 G1 H1 S1 (Mon.run (f a) S1) Q2 W) W := by
  rw [Mon.run_bind] at h
  exact Post.bind h
theorem Post.mono {α γ : Type} {K : PySem.W.Frag} {mg : Str → Option Value} {p : Bool} {R : List Addr → Hp → α → γ → Prop} {κ : List Addr} {G H : Hp} {S : Cells} {r : Res α × Cells} {Q Q' : γ → Hp → Prop} {W : Value → Option Addr → Hp → Prop}
    (h : Post K mg p R κ G H S r Q W) (q : ∀ v H, Q v H → Q' v H) : Post K mg p R κ G H S r Q' W := by
  obtain ⟨r, S'⟩ := r
  cases r with
  | ok x => exact fun κ' G' H' v e' r' => q v H' (h κ' G' H' v e' r')
  | exn c fs => exact h
  | stuck => exact h
/-- the same with a rest that holds the world -/
theorem bindW {α β γ δ : Type} {K : PySem.W.Frag} {mg : Str → Option Value} {p : Bool} {R : List Addr → Hp → α → γ → Prop} {R2 : List Addr → Hp → β → δ → Prop} {κ : List Addr} {G H : Hp} {S : Cells} {x : m α} {f : α → m β} {Q2 : δ → Hp → Prop} {W : Value → Option Addr → Hp → Prop} {Q1 : γ → Hp → Prop}
    (h : Post K mg p R2 κ G H S (Mon.run (x >>= f) S) Q2 W)
    (q : ∀ a v κ1 G1 H1 S1, ExtB K mg p κ G H S κ1 G1 H1 S1 → R κ1 G1 a v → Post K mg p R2 κ1 G1 H1 S1 (Mon.run (f a) S1) Q2 W → Q1 v H1) :
    Post K mg p R κ G H S (Mon.run x S) Q1 W :=
  (bindP h).mono fun v H1 ⟨a, κ1, G1, S1, e, r, h1⟩ => q a v κ1 G1 H1 S1 e r h1

/-! ### names, constants -/
theorem ev_var (c : Ctx X N sc k) (i : Nat) {x : Str} {pos : Pos} {v : Val} (hn : Nm N sc i x) (he : E[i]? = some (.fz v) := by rfl) : Ev X E (.Name x pos) (Pure.pure v : m Val) := by
  intro B0 S κ G σ H sat W tk Q h
  have wd := sat.w
  obtain ⟨e, L, so, nd, q⟩ := sat
  obtain ⟨ov, L1, h1, ⟨hL, u, hu, r⟩, _⟩ := so.get he
  subst hu
  exact we_of (c.pv hn) ⟨u, h1, h.pure wd r⟩
theorem ev_c {e : Expr} {v : V} {x : Val} (h : PE X e (tC v)) (r : ∀ K mg κ G, Rep K mg κ G x v) : Ev X E e (Pure.pure x : m Val) := by
  intro B0 S κ G σ H sat W tk Q q
  exact we_of h (q.pure sat.w (r _ _ _ _))
theorem ev_int {i : Int} {j pos} : Ev X E (.Constant (.int i) j pos) (Pure.pure (.int i) : m Val) := ev_c pe_int fun _ _ _ _ => by unfold Rep; rfl
theorem ev_str {i : Str} {j pos} : Ev X E (.Constant (.str i) j pos) (Pure.pure (.str i) : m Val) := ev_c pe_str fun _ _ _ _ => by unfold Rep; rfl
theorem ev_bl {i : Bool} {j pos} : Ev X E (.Constant (.bool i) j pos) (Pure.pure (.bl i) : m Val) := ev_c pe_bl fun _ _ _ _ => by unfold Rep; rfl
theorem ev_non {j pos} : Ev X E (.Constant .none j pos) (Pure.pure .non : m Val) := ev_c pe_non fun _ _ _ _ => by unfold Rep; rfl
/-- a module's constant -/
theorem ev_glob (c : Ctx X N sc k) {x : Str} {pos : Pos} {u : Value} {v : V} {z : Val} (hg : glB sc x = true) (hm : X.mg x = some u) (hr : RelV v u) (r : ∀ κ G, Rep X.K X.mg κ G z v) : Ev X E (.Name x pos) (Pure.pure z : m Val) := by
  intro B0 S κ G σ H sat W tk Q q
  obtain ⟨h1, h2, h3⟩ := c.gl hg
  exact we_of (pe_glob h1 hm hr (hd := h2)) (q.pure sat.w (r _ _))

/-! ### operations on two values -/
/-- what an operation does to trees -/
def Op2 (X : Cx) (f : Value → Value → Sem Value) (g : Val → Val → Res Val) : Prop := ∀ κ G H S x y v u Q W, Wd X.K X.mg κ G H S → Rep X.K X.mg κ G x v → Rep X.K X.mg κ G y u →
  Post X.K X.mg true (Rep X.K X.mg) κ G H S (lift (g x y) S) Q W → WO X f v u H Q
theorem ev_bin {op : Operator} {g : Val → Val → Res Val} {a b : Expr} {pos : Pos} {ra rb : m Val} (hg : Op2 X (binaryOp op) g) (ha : Ev X E a ra) (hb : Ev X E b rb) :
    Ev X E (.BinOp a op b pos) (ra >>= fun x => rb >>= fun y => Mon.of (g x y)) := by
  intro B0 S κ G σ H sat W tk Q h
  refine we_of (pe_op op_self pe_self pe_self) ?_
  refine ha B0 S κ G σ H sat W tk _ (bindW h fun x v κ1 G1 H1 S1 e1 r1 h1 => ?_)
  refine hb B0 S1 κ1 G1 σ H1 (sat.ext e1.weak) W tk _ (bindW h1 fun y u κ2 G2 H2 S2 e2 r2 h2 => ?_)
  exact hg κ2 G2 H2 S2 x y v u Q _ e2.e.w (r1.mono e2.e.pre e2.e.le) r2 h2.ofOk
theorem ev_cmp {op : CmpOp} {g : Val → Val → Res Val} {a b : Expr} {pos : Pos} {ra rb : m Val} (hg : Op2 X (compareOp op) g) (hm : behindInMarks op b = false) (ha : Ev X E a ra) (hb : Ev X E b rb) :
    Ev X E (.Compare a [op] [b] pos) (ra >>= fun x => rb >>= fun y => Mon.of (g x y)) := by
  intro B0 S κ G σ H sat W tk Q h
  refine we_of (pe_cmpR op_self pe_self pe_self hm) ?_
  refine ha B0 S κ G σ H sat W tk _ (bindW h fun x v κ1 G1 H1 S1 e1 r1 h1 => ?_)
  refine hb B0 S1 κ1 G1 σ H1 (sat.ext e1.weak) W tk _ (bindW h1 fun y u κ2 G2 H2 S2 e2 r2 h2 => ?_)
  exact hg κ2 G2 H2 S2 x y v u Q _ e2.e.w (r1.mono e2.e.pre e2.e.le) r2 h2.ofOk
end
end Tv

namespace Tv
open PySem L2

/-! ### plain forms of expressions -/
def notStar : Expr → Bool
  | .Starred .. => false
  | _ => true
theorem star_of {e : Expr} (h : notStar e = true) (es : List Expr) (env : PySem.Env) : starEach (e :: es) env = (false, eval e env) :: starEach es env := by
  cases e <;> first
    | rfl
    | cases h
def noStars : List Expr → Bool
  | [] => true
  | e :: es => notStar e && noStars es
theorem plain_of : ∀ {es : List Expr} (h : noStars es = true) (pos : Pos) (env : PySem.Env), (backTo pos (starEach es env)).any (·.1) = false
  | [], _, _, _ => rfl
  | e :: es, h, pos, env => by
    unfold noStars at h
    obtain ⟨h1, h2⟩ := Bool.and_eq_true_iff.mp h
    rw [star_of h1]
    have := plain_of h2 pos env
    unfold backTo at this ⊢
    rw [List.map_cons, List.any_cons, this]
    rfl
def plainT : Expr → Bool
  | .UnaryOp .Not _ _ => false
  | .BoolOp .. => false
  | .IfExp .. => false
  | .Compare .. => false
  | _ => true
theorem isTrue_of {e : Expr} (h : plainT e = true) (env : PySem.Env) (whole : Sem Value) : isTrue e env whole = (do let v ← whole; standAt e.pos; holding [v] (truthy v)) := by
  cases e with
  | UnaryOp op a p => cases op <;> first | rfl | cases h
  | BoolOp _ _ _ => cases h
  | IfExp _ _ _ _ => cases h
  | Compare _ _ _ _ => cases h
  | _ => rfl

section
variable {X : Cx} {N : List Str} {sc : Scope} {k : Nat} {E : Env} {m : Type → Type} [Mon m]

/-! ### truth -/
def vTru : Val → Res Bool
  | .non => .ok false
  | .bl b => .ok b
  | .int i => .ok (i != 0)
  | .str x => if x.length ≤ sizeLine then .ok ((x.length : Int) != 0) else .stuck
  | .tup xs => .ok (!xs.isEmpty)
  | .lst xs => .ok (!xs.isEmpty)
  | .dic xs => .ok (!xs.isEmpty)
  | _ => .stuck
theorem vTru_exn {x : Val} {c : Str} {fs : List (Str × Val)} : vTru x ≠ .exn c fs := fun h => by
  cases x with
  | str s =>
    have h : (if s.length ≤ sizeLine then Res.ok ((s.length : Int) != 0) else Res.stuck) = Res.exn c fs := h
    split at h <;> cases h
  | _ => cases h
theorem isEmpty_len {α β : Type} {xs : List α} {ys : List β} (h : xs.length = ys.length) : xs.isEmpty = ys.isEmpty := by
  cases xs <;> cases ys <;> simp_all
theorem RepD.length {K : PySem.W.Frag} {mg : Str → Option Value} {κ : List Addr} {G : Hp} : ∀ {xs : List (Key × Val)} {vs : List (Key × V)}, RepD K mg κ G xs vs → vs.length = xs.length
  | [], _, h => by unfold RepD at h; subst h; rfl
  | x :: xs, _, h => by
    unfold RepD at h
    obtain ⟨v, r, e, _, t⟩ := h
    subst e
    simp [RepD.length t]
def TruD (K : PySem.W.Frag) (v : V) (H : Hp) (b : Bool) : Prop := TruV K v H b ∨ ∃ a kvs, v = .ref a ∧ Rd H a (.dK kvs) ∧ b = !kvs.isEmpty
theorem tru_rep {K : PySem.W.Frag} {mg : Str → Option Value} {κ : List Addr} {G H : Hp} (l : Le G H) {x : Val} {v : V} (r : Rep K mg κ G x v) {b : Bool} (h : vTru x = .ok b) : TruD K v H b := by
  cases x with
  | non => unfold Rep at r; subst r; cases h; exact .inl rfl
  | bl c => unfold Rep at r; subst r; cases h; exact .inl rfl
  | int i => unfold Rep at r; subst r; cases h; exact .inl rfl
  | str s =>
    unfold Rep at r; subst r
    have h : (if s.length ≤ sizeLine then Res.ok ((s.length : Int) != 0) else Res.stuck) = Res.ok b := h
    split at h
    · cases h; exact .inl ⟨by assumption, rfl⟩
    · cases h
  | tup xs =>
    unfold Rep at r
    obtain ⟨a, vs, e, q, t⟩ := r
    subst e; cases h
    exact .inl (.inr (.inl ⟨vs, l.sqT q, by rw [isEmpty_len t.length]⟩))
  | lst xs =>
    unfold Rep at r
    obtain ⟨a, vs, e, q, t⟩ := r
    subst e; cases h
    exact .inl (.inl ⟨vs, .inl (.inl (l _ _ q)), by rw [isEmpty_len t.length]⟩)
  | dic xs =>
    unfold Rep at r
    obtain ⟨a, vs, e, q, t⟩ := r
    subst e; cases h
    exact .inr ⟨a, vs, rfl, l.rd q, by rw [isEmpty_len t.length]⟩
  | obj _ _ => cases h
  | cell _ => cases h
  | scr _ => cases h
theorem pt_truD {a : Expr} {ta : TE} (ha : PE X a ta) (he : ∀ whole, isTrue a X.env whole = (do let v ← whole; standAt a.pos; holding [v] (truthy v))) :
    PT X a (fun σ H Q => ta σ H fun x H' => ∃ k, TruD X.K x H' k ∧ Q k H') := by
  refine ⟨fun pins s σ H Q I h => ?_⟩
  refine PyProof.Rows.isTrue_plain (thn (ha.run pins s σ H _ I h) fun v s1 ⟨x, H1, I1, r1, k, hk, q1⟩ => ?_) (he _)
  rcases hk with hk | ⟨b, kvs, e, hr, e2⟩
  · exact tru_ok pins s1 σ H1 x v Q I1 r1 ⟨k, hk, q1⟩
  · subst e e2
    obtain rfl : v = Value.ref b := r1
    exact d_truth I1 hr fun s2 I2 => ⟨H1, I2, q1⟩
theorem et_val {e : Expr} {r : m Val} (h : Ev X E e r) (hp : plainT e = true := by rfl) : Et X E e (r >>= fun x => Mon.of (vTru x)) := by
  intro B0 S κ G σ H sat W tk Q q
  refine wt_of (pt_truD pe_self fun whole => isTrue_of hp _ _) ?_
  refine h B0 S κ G σ H sat W tk _ (bindW q fun x v κ1 G1 H1 S1 e1 r1 h1 => ?_)
  have h2 := h1.ofOk
  cases z : vTru x with
  | ok b =>
    rw [z] at h2
    exact ⟨b, tru_rep e1.e.w.le r1 z, h2 κ1 G1 H1 b (ExtB.refl e1.e.w) rfl⟩
  | exn c fs => exact absurd z vTru_exn
  | stuck => rw [z] at h2; exact h2.elim
/-- the value of a test is True or False -/
def vBl : Val → Res Bool
  | .bl b => .ok b
  | _ => .stuck
theorem et_cmp {op : CmpOp} {g : Val → Val → Res Val} {a b : Expr} {pos : Pos} {ra rb : m Val} (hg : Op2 X (compareOp op) g) (ha : Ev X E a ra) (hb : Ev X E b rb) (hm : behindInMarks op b = false := by rfl) :
    Et X E (.Compare a [op] [b] pos) (ra >>= fun x => rb >>= fun y => Mon.of (g x y >>= vBl)) := by
  intro B0 S κ G σ H sat W tk Q h
  refine wt_of (pt_cmpR op_self pe_self pe_self hm) ?_
  refine ha B0 S κ G σ H sat W tk _ (bindW h fun x v κ1 G1 H1 S1 e1 r1 h1 => ?_)
  refine hb B0 S1 κ1 G1 σ H1 (sat.ext e1.weak) W tk _ (bindW h1 fun y u κ2 G2 H2 S2 e2 r2 h2 => ?_)
  refine hg κ2 G2 H2 S2 x y v u _ _ e2.e.w (r1.mono e2.e.pre e2.e.le) r2 (bindW (m := Res) h2.ofOk fun z w κ3 G3 H3 S3 e3 r3 h3 => ?_)
  cases z with
  | bl c =>
    unfold Rep at r3; subst r3
    exact ⟨c, rfl, h3 κ3 G3 H3 c (ExtB.refl e3.e.w) rfl⟩
  | _ => exact h3.elim
theorem et_not {a : Expr} {pos : Pos} {r : m Bool} (h : Et X E a r) : Et X E (.UnaryOp .Not a pos) (r >>= fun b => Pure.pure (!b)) := by
  intro B0 S κ G σ H sat W tk Q q
  refine wt_of (pt_not pt_self) ?_
  refine h B0 S κ G σ H sat W tk _ (bindW q fun x v κ1 G1 H1 S1 e1 r1 h1 => ?_)
  subst r1
  exact h1.pure e1.e.w rfl
structure WW (X : Cx) (e : Expr) (σ : St) (H : Hp) (Q : Bool → Hp → Prop) : Prop where
  run : ∀ (whole : Sem Value) (pins : List (Addr × Obj)) (s : Shared), L2.Inv X pins σ H s → wpAny (model X.prog X.w) X.A (isTrue e X.env whole) (TP X pins σ Q) X.xe s
/-- a chain of and | or, whatever its whole is -/
def Ew (X : Cx) (E : Env) (e : Expr) (r : m Bool) : Prop :=
  ∀ B0 S κ G σ H, Sat X.K X.mg false B0 E S κ G σ H → ∀ W : WX, Takes X W → ∀ Q : Bool → Hp → Prop, Post X.K X.mg (Mon.pu m) RB κ G H S (Mon.run r S) Q (fun c d H' => W c d σ H') → WW X e σ H Q
theorem pw_self {e : Expr} : PW X e (WW X e) := ⟨fun whole pins s _ _ _ I h => h.run whole pins s I⟩
theorem et_bool {e : Expr} {r : m Bool} (h : Ew X E e r) : Et X E e r := by
  intro B0 S κ G σ H sat W tk Q q
  exact ⟨fun pins s I => (h B0 S κ G σ H sat W tk Q q).run _ pins s I⟩
theorem ew_and1 {a : Expr} {pos : Pos} {r : m Bool} (h : Et X E a r) : Ew X E (.BoolOp .And [a] pos) r := by
  intro B0 S κ G σ H sat W tk Q q
  refine ⟨fun whole pins s I => ?_⟩
  exact (pw_and1 pt_self).run whole pins s σ H Q I (h B0 S κ G σ H sat W tk Q q)
theorem ew_or1 {a : Expr} {pos : Pos} {r : m Bool} (h : Et X E a r) : Ew X E (.BoolOp .Or [a] pos) r := by
  intro B0 S κ G σ H sat W tk Q q
  refine ⟨fun whole pins s I => ?_⟩
  exact (pw_or1 pt_self).run whole pins s σ H Q I (h B0 S κ G σ H sat W tk Q q)
theorem ew_and {a b : Expr} {es : List Expr} {pos : Pos} {r r2 : m Bool} (h : Et X E a r) (h2 : Ew X E (.BoolOp .And (b :: es) pos) r2) : Ew X E (.BoolOp .And (a :: b :: es) pos) (r >>= fun c => if c = true then r2 else Pure.pure false) := by
  intro B0 S κ G σ H sat W tk Q q
  refine ⟨fun whole pins s I => ?_⟩
  refine (pw_and pt_self pw_self).run whole pins s σ H Q I ?_
  refine h B0 S κ G σ H sat W tk _ (bindW q fun x v κ1 G1 H1 S1 e1 r1 h1 => ?_)
  subst r1
  cases x with
  | true =>
    rw [if_pos rfl] at h1 ⊢
    exact h2 B0 S1 κ1 G1 σ H1 (sat.ext e1.weak) W tk Q h1
  | false =>
    rw [if_neg Bool.false_ne_true] at h1 ⊢
    exact h1.pure e1.e.w rfl
theorem ew_or {a b : Expr} {es : List Expr} {pos : Pos} {r r2 : m Bool} (h : Et X E a r) (h2 : Ew X E (.BoolOp .Or (b :: es) pos) r2) : Ew X E (.BoolOp .Or (a :: b :: es) pos) (r >>= fun c => if c = true then Pure.pure true else r2) := by
  intro B0 S κ G σ H sat W tk Q q
  refine ⟨fun whole pins s I => ?_⟩
  refine (pw_or pt_self pw_self).run whole pins s σ H Q I ?_
  refine h B0 S κ G σ H sat W tk _ (bindW q fun x v κ1 G1 H1 S1 e1 r1 h1 => ?_)
  subst r1
  cases x with
  | true =>
    rw [if_pos rfl] at h1 ⊢
    exact h1.pure e1.e.w rfl
  | false =>
    rw [if_neg Bool.false_ne_true] at h1 ⊢
    exact h2 B0 S1 κ1 G1 σ H1 (sat.ext e1.weak) W tk Q h1
theorem ev_ifExp {c a b : Expr} {pos : Pos} {rc : m Bool} {ra rb : m Val} (hc : Et X E c rc) (ha : Ev X E a ra) (hb : Ev X E b rb) : Ev X E (.IfExp c a b pos) (rc >>= fun t => if t = true then ra else rb) := by
  intro B0 S κ G σ H sat W tk Q q
  refine we_of (pe_ifExp pt_self pe_self pe_self) ?_
  refine hc B0 S κ G σ H sat W tk _ (bindW q fun x v κ1 G1 H1 S1 e1 r1 h1 => ?_)
  subst r1
  cases x with
  | true =>
    rw [if_pos rfl] at h1 ⊢
    exact ha B0 S1 κ1 G1 σ H1 (sat.ext e1.weak) W tk Q h1
  | false =>
    rw [if_neg Bool.false_ne_true] at h1 ⊢
    exact hb B0 S1 κ1 G1 σ H1 (sat.ext e1.weak) W tk Q h1
def vTruV : Val → Res Bool
  | .dic _ => .stuck
  | x => vTru x
theorem vTruV_exn {x : Val} {c : Str} {fs : List (Str × Val)} : vTruV x ≠ .exn c fs := fun h => by
  cases x with
  | dic _ => cases h
  | non => exact vTru_exn (x := .non) h
  | bl b => exact vTru_exn (x := .bl b) h
  | int i => exact vTru_exn (x := .int i) h
  | str z => exact vTru_exn (x := .str z) h
  | tup xs => exact vTru_exn (x := .tup xs) h
  | lst xs => exact vTru_exn (x := .lst xs) h
  | obj C fs => exact vTru_exn (x := .obj C fs) h
  | cell n => exact vTru_exn (x := .cell n) h
  | scr n => exact vTru_exn (x := .scr n) h
theorem tru_repV {K : PySem.W.Frag} {mg : Str → Option Value} {κ : List Addr} {G H : Hp} (l : Le G H) {x : Val} {v : V} (r : Rep K mg κ G x v) {b : Bool} (h : vTruV x = .ok b) : TruV K v H b := by
  cases x with
  | dic _ => cases h
  | non => unfold Rep at r; subst r; cases h; rfl
  | bl c => unfold Rep at r; subst r; cases h; rfl
  | int i => unfold Rep at r; subst r; cases h; rfl
  | str s =>
    unfold Rep at r; subst r
    have h : (if s.length ≤ sizeLine then Res.ok ((s.length : Int) != 0) else Res.stuck) = Res.ok b := h
    split at h
    · cases h; exact ⟨by assumption, rfl⟩
    · cases h
  | tup xs =>
    unfold Rep at r
    obtain ⟨a, vs, e, q, t⟩ := r
    subst e; cases h
    exact .inr (.inl ⟨vs, l.sqT q, by rw [isEmpty_len t.length]⟩)
  | lst xs =>
    unfold Rep at r
    obtain ⟨a, vs, e, q, t⟩ := r
    subst e; cases h
    exact .inl ⟨vs, .inl (.inl (l _ _ q)), by rw [isEmpty_len t.length]⟩
  | obj _ _ => cases h
  | cell _ => cases h
  | scr _ => cases h
/-- not e as a value -/
theorem ev_not {a : Expr} {pos : Pos} {r : m Val} (h : Ev X E a r) : Ev X E (.UnaryOp .Not a pos) (r >>= fun x => Mon.of (vTruV x) >>= fun b => Pure.pure (.bl (!b))) := by
  intro B0 S κ G σ H sat W tk Q q
  refine we_of (pe_notT pe_self) ?_
  refine h B0 S κ G σ H sat W tk _ (bindW q fun x v κ1 G1 H1 S1 e1 r1 h1 => ?_)
  have h2 := h1
  rw [Mon.run_bind, Mon.run_of] at h2
  cases z : vTruV x with
  | ok b =>
    rw [z] at h2
    exact ⟨b, tru_repV e1.e.w.le r1 z, Post.pure (m := m) (x := Val.bl (!b)) h2 e1.e.w (by unfold Rep; rfl)⟩
  | exn c fs => exact absurd z vTruV_exn
  | stuck => rw [z] at h2; exact h2.elim
theorem ev_one {op : PySem.BoolOp} {a : Expr} {pos : Pos} {r : m Val} (h : Ev X E a r) : Ev X E (.BoolOp op [a] pos) r := by
  intro B0 S κ G σ H sat W tk Q q
  exact we_of (pe_one pe_self) (h B0 S κ G σ H sat W tk Q q)
theorem ev_and {a b : Expr} {es : List Expr} {pos : Pos} {r r2 : m Val} (h : Ev X E a r) (h2 : Ev X E (.BoolOp .And (b :: es) pos) r2) :
    Ev X E (.BoolOp .And (a :: b :: es) pos) (r >>= fun x => Mon.of (vTruV x) >>= fun c => if c = true then r2 else Pure.pure x) := by
  intro B0 S κ G σ H sat W tk Q q
  refine we_of (pe_andT pe_self pe_self) ?_
  refine h B0 S κ G σ H sat W tk _ (bindW q fun x v κ1 G1 H1 S1 e1 r1 h1 => ?_)
  rw [Mon.run_bind, Mon.run_of] at h1
  cases z : vTruV x with
  | ok b =>
    rw [z] at h1
    refine ⟨b, tru_repV e1.e.w.le r1 z, ?_⟩
    cases b with
    | true => exact h2 B0 S1 κ1 G1 σ H1 (sat.ext e1.weak) W tk Q h1
    | false => exact Post.pure (m := m) (x := x) h1 e1.e.w r1
  | exn c fs => exact absurd z vTruV_exn
  | stuck => rw [z] at h1; exact h1.elim
theorem ev_or {a b : Expr} {es : List Expr} {pos : Pos} {r r2 : m Val} (h : Ev X E a r) (h2 : Ev X E (.BoolOp .Or (b :: es) pos) r2) :
    Ev X E (.BoolOp .Or (a :: b :: es) pos) (r >>= fun x => Mon.of (vTruV x) >>= fun c => if c = true then Pure.pure x else r2) := by
  intro B0 S κ G σ H sat W tk Q q
  refine we_of (pe_orT pe_self pe_self) ?_
  refine h B0 S κ G σ H sat W tk _ (bindW q fun x v κ1 G1 H1 S1 e1 r1 h1 => ?_)
  rw [Mon.run_bind, Mon.run_of] at h1
  cases z : vTruV x with
  | ok b =>
    rw [z] at h1
    refine ⟨b, tru_repV e1.e.w.le r1 z, ?_⟩
    cases b with
    | true => exact Post.pure (m := m) (x := x) h1 e1.e.w r1
    | false => exact h2 B0 S1 κ1 G1 σ H1 (sat.ext e1.weak) W tk Q h1
  | exn c fs => exact absurd z vTruV_exn
  | stuck => rw [z] at h1; exact h1.elim

/-! ### lists of expressions, displays -/
theorem ea_nil : Ea X E [] (Pure.pure [] : m (List Val)) := by
  intro B0 S κ G σ H sat W tk Q q
  exact wa_of pa_nil (q.pure sat.w .nil)
theorem ea_cons {e : Expr} {es : List Expr} {r : m Val} {rs : m (List Val)} (h : Ev X E e r) (h2 : Ea X E es rs) (hs : notStar e = true := by rfl) : Ea X E (e :: es) (r >>= fun x => rs >>= fun xs => Pure.pure (x :: xs)) := by
  intro B0 S κ G σ H sat W tk Q q
  refine wa_of (pa_cons pe_self pa_self (star_of hs es X.env)) ?_
  refine h B0 S κ G σ H sat W tk _ (bindW q fun x v κ1 G1 H1 S1 e1 r1 h1 => ?_)
  refine h2 B0 S1 κ1 G1 σ H1 (sat.ext e1.weak) W tk _ (bindW h1 fun y u κ2 G2 H2 S2 e2 r2 h3 => ?_)
  exact h3.pure e2.e.w (.cons (r1.mono e2.e.pre e2.e.le) r2)
theorem Wd.upd {K : PySem.W.Frag} {mg : Str → Option Value} {κ : List Addr} {G H : Hp} {S : Cells} {p : Addr} {o : HO} (w : Wd K mg κ G H S) (hp : H p = none) : ExtB K mg true κ G H S κ (L2.upd G p o) (L2.upd H p o) S := by
  have gp : G p = none := by
    cases e : G p with
    | none => rfl
    | some u => rw [w.le p u e] at hp; cases hp
  have np : ∀ a ∈ κ, a ≠ p := fun a h e => w.there h (by rw [e]; exact hp)
  have lg : Le G (L2.upd G p o) := fun a u h => by
    rw [upd_ne (fun e => by rw [e, gp] at h; cases h)]; exact h
  have lh : Le H (L2.upd H p o) := fun a u h => by
    rw [upd_ne (fun e => by rw [e, hp] at h; cases h)]; exact h
  refine ⟨⟨Pre.refl _, lg, fun a u h _ => lh a u h, fun a h g => ?_, fun a h n => absurd h n, ⟨fun a u h => ?_, w.nd, fun a h => ?_, w.len, fun n a c h1 h2 => ?_⟩⟩, fun _ => ⟨rfl, rfl, lh⟩⟩
  · rw [upd_ne (fun e => h (by rw [e]; exact hp))]; exact g
  · by_cases e : a = p
    · subst e; rw [upd_same] at h ⊢; exact h
    · rw [upd_ne e] at h ⊢; exact w.le a u h
  · rw [upd_ne (np a h)]; exact w.ap a h
  · have ha := np a (List.mem_of_getElem? h1)
    have q := w.cel n a c h1 h2
    cases c with
    | lst xs => obtain ⟨vs, e, r⟩ := q; exact ⟨vs, by rw [upd_ne ha]; exact e, r.mono (Pre.refl _) lg⟩
    | obj C fs => obtain ⟨Ca, dx, vs, e0, e, r⟩ := q; exact ⟨Ca, dx, vs, e0, by rw [upd_ne ha]; exact e, r.mono (Pre.refl _) lg⟩
    | dic xs => obtain ⟨vs, e, r⟩ := q; exact ⟨vs, by rw [upd_ne ha]; exact e, r.mono (Pre.refl _) lg⟩
    | _ => exact q.elim
/-- a new tuple | list, frozen -/
theorem new_tup {K : PySem.W.Frag} {mg : Str → Option Value} {κ : List Addr} {G H : Hp} {S : Cells} {p : Addr} {xs : List Val} {vs : List V} {Q : VK} {W : Value → Option Addr → Hp → Prop} (w : Wd K mg κ G H S) (hp : H p = none) (r : RepL K mg κ G xs vs)
    (h : Post K mg true (Rep K mg) κ G H S (.ok (.tup xs), S) Q W) : Q (.ref p) (L2.upd H p (.tup vs)) := by
  have x := w.upd (o := .tup vs) hp
  refine h κ _ _ _ x ?_
  unfold Rep
  exact ⟨p, vs, rfl, .inl (.inl upd_same), r.mono (Pre.refl _) x.e.le⟩
theorem new_lst {K : PySem.W.Frag} {mg : Str → Option Value} {κ : List Addr} {G H : Hp} {S : Cells} {p : Addr} {xs : List Val} {vs : List V} {Q : VK} {W : Value → Option Addr → Hp → Prop} (w : Wd K mg κ G H S) (hp : H p = none) (r : RepL K mg κ G xs vs)
    (h : Post K mg true (Rep K mg) κ G H S (.ok (.lst xs), S) Q W) : Q (.ref p) (L2.upd H p (.lst vs)) := by
  have x := w.upd (o := .lst vs) hp
  refine h κ _ _ _ x ?_
  unfold Rep
  exact ⟨p, vs, rfl, upd_same, r.mono (Pre.refl _) x.e.le⟩
def vTup (xs : List Val) : Res Val := if xs.length ≤ sizeLine then .ok (.tup xs) else .stuck
def vLst (xs : List Val) : Res Val := if xs.length ≤ sizeLine then .ok (.lst xs) else .stuck
theorem ev_tup {es : List Expr} {x1} {pos : Pos} {rs : m (List Val)} (h : Ea X E es rs) : Ev X E (.Tuple es x1 pos) (rs >>= fun xs => Mon.of (vTup xs)) := by
  intro B0 S κ G σ H sat W tk Q q
  refine we_of (pe_tup pa_self) ?_
  refine h B0 S κ G σ H sat W tk _ (bindW q fun x v κ1 G1 H1 S1 e1 r1 h1 => ?_)
  have h2 := h1.ofOk
  unfold vTup at h2
  split at h2
  · exact ⟨by rw [r1.length]; assumption, fun p hp => new_tup e1.e.w hp r1 h2⟩
  · exact h2.elim
theorem ev_lst {es : List Expr} {pos : Pos} {rs : m (List Val)} (h : Ea X E es rs) : Ev X E (.List es pos) (rs >>= fun xs => Mon.of (vLst xs)) := by
  intro B0 S κ G σ H sat W tk Q q
  refine we_of (pe_lst pa_self) ?_
  refine h B0 S κ G σ H sat W tk _ (bindW q fun x v κ1 G1 H1 S1 e1 r1 h1 => ?_)
  have h2 := h1.ofOk
  unfold vLst at h2
  split at h2
  · exact ⟨by rw [r1.length]; assumption, fun p hp => new_lst e1.e.w hp r1 h2⟩
  · exact h2.elim

/-! ### built-ins by name -/
def OpN (X : Cx) (f : Value) (g : List Val → Res Val) : Prop := ∀ κ G H S xs vs Q W, Wd X.K X.mg κ G H S → RepL X.K X.mg κ G xs vs →
  Post X.K X.mg true (Rep X.K X.mg) κ G H S (lift (g xs) S) Q W → WC X f vs H Q
theorem ev_blt (c : Ctx X N sc k) {x : Str} {id : String} {p pos : Pos} {e : Expr} {es : List Expr} {rs : m (List Val)} {g : List Val → Res Val} (ho : OpN X (.builtin id) g) (hg : glB sc x = true) (hm : X.mg x = none) (hv : bootBuiltins x = some (.builtin id))
    (ha : Ea X E (e :: es) rs) (hs : noStars (e :: es) = true := by rfl) : Ev X E (.Call (.Name x p) (e :: es) [] pos) (rs >>= fun xs => Mon.of (g xs)) := by
  intro B0 S κ G σ H sat W tk Q q
  obtain ⟨g1, g2, g3⟩ := c.gl hg
  obtain ⟨s1, s2⟩ := Bool.and_eq_true_iff.mp hs
  refine we_of (pe_callB call_self g1 hm hv pa_self (hn := g3) (hdb := g2) (he := star_of s1 es X.env) (hpl := plain_of s2 pos X.env)) ?_
  refine ha B0 S κ G σ H sat W tk _ (bindW q fun x v κ1 G1 H1 S1 e1 r1 h1 => ?_)
  exact ho κ1 G1 H1 S1 x v Q _ e1.e.w r1 h1.ofOk
theorem ev_bty (c : Ctx X N sc k) {x : Str} {T : String} {p pos : Pos} {e : Expr} {es : List Expr} {rs : m (List Val)} {g : List Val → Res Val} (ho : OpN X (.type T) g) (hg : glB sc x = true) (hm : X.mg x = none) (hv : bootBuiltins x = some (.type T))
    (ha : Ea X E (e :: es) rs) (hs : noStars (e :: es) = true := by rfl) : Ev X E (.Call (.Name x p) (e :: es) [] pos) (rs >>= fun xs => Mon.of (g xs)) := by
  intro B0 S κ G σ H sat W tk Q q
  obtain ⟨g1, g2, g3⟩ := c.gl hg
  obtain ⟨s1, s2⟩ := Bool.and_eq_true_iff.mp hs
  refine we_of (pe_callTy call_self g1 hm hv pa_self (hn := g3) (hdb := g2) (he := star_of s1 es X.env) (hpl := plain_of s2 pos X.env)) ?_
  refine ha B0 S κ G σ H sat W tk _ (bindW q fun x v κ1 G1 H1 S1 e1 r1 h1 => ?_)
  exact ho κ1 G1 H1 S1 x v Q _ e1.e.w r1 h1.ofOk
/-! ### subscripts -/
theorem ev_sub {g : Val → Val → Res Val} {a b : Expr} {pos : Pos} {ra rb : m Val} {r : R2} (hr : IxR X r) (hg : ∀ κ G H S x y v u Q W, Wd X.K X.mg κ G H S → Rep X.K X.mg κ G x v → Rep X.K X.mg κ G y u →
    Post X.K X.mg true (Rep X.K X.mg) κ G H S (lift (g x y) S) Q W → r v u H Q) (hs : PlainIx b) (ha : Ev X E a ra) (hb : Ev X E b rb) :
    Ev X E (.Subscript a b pos) (ra >>= fun x => rb >>= fun y => Mon.of (g x y)) := by
  intro B0 S κ G σ H sat W tk Q h
  refine we_of (pe_ix hr pe_self pe_self hs) ?_
  refine ha B0 S κ G σ H sat W tk _ (bindW h fun x v κ1 G1 H1 S1 e1 r1 h1 => ?_)
  refine hb B0 S1 κ1 G1 σ H1 (sat.ext e1.weak) W tk _ (bindW h1 fun y u κ2 G2 H2 S2 e2 r2 h2 => ?_)
  exact hg κ2 G2 H2 S2 x y v u Q _ e2.e.w (r1.mono e2.e.pre e2.e.le) r2 h2.ofOk
end
end Tv

namespace Tv
open PySem L2

/-! ### what a def is worth -/
section
variable {m : Type → Type} [Mon m]
structure FnG (P : Program) (w : World) (K : PySem.W.Frag) (mg : Str → Option Value) (base : Heap) (k : Nat) (f : Addr) (fd : FuncData) (ps : List Str) (g : List Val → m Val) : Prop where
  len : ∀ xs, xs.length ≠ ps.length → g xs = Mon.of .stuck
  run : ∀ (A : Around) (outer : List PySem.Env) (s : Shared) (H : Hp) (args : Args) (us : List Value) (vs : List V) (Q : VK) (E : XK) (κ : List Addr) (G : Hp) (S : Cells) (xs : List Val), Room k A → A.guards = some [] →
    Env0 P w K mg base A outer s H → BindsTo s fd args (ps.zip us) → Vals vs us → vs.length = ps.length → Wd K mg κ G H S → RepL K mg κ G xs vs →
    Post K mg (Mon.pu m) (Rep K mg) κ G H S (Mon.run (g xs) S) Q (fun c d H' => E c d H') → codeAny (model P w) A (.call (.ref f) args) (CR (L2.CX P w) outer P w H s Q E) s
theorem FnG.mono {P : Program} {w : World} {K : PySem.W.Frag} {mg : Str → Option Value} {base : Heap} {j k : Nat} {f : Addr} {fd : FuncData} {ps : List Str} {g : List Val → m Val} (F : FnG P w K mg base j f fd ps g) (h : j ≤ k) : FnG P w K mg base k f fd ps g :=
  ⟨F.len, fun A outer s H args us vs Q E κ G S xs hr => F.run A outer s H args us vs Q E κ G S xs (hr.mono h)⟩
def startE (N : List Str) (xs : List Val) : Env := xs.map .fz ++ List.replicate (N.length - xs.length) .un
theorem slots_start {K : PySem.W.Frag} {mg : Str → Option Value} {κ : List Addr} {G H : Hp} : ∀ {xs : List Val} {vs : List V} (n : Nat), RepL K mg κ G xs vs → SlotsOk K mg κ G H (xs.map .fz ++ List.replicate n .un) (vs.map some ++ List.replicate n none) []
  | [], vs, n, h => by
    unfold RepL at h; subst h
    show SlotsOk K mg κ G H (List.replicate n .un) (List.replicate n none) []
    induction n with
    | zero => exact ⟨rfl, rfl⟩
    | succ n ih => exact ⟨none, List.replicate n none, [], [], rfl, rfl, rfl, ih⟩
  | x :: xs, vs, n, h => by
    unfold RepL at h
    obtain ⟨v, r, e, h1, h2⟩ := h
    subst e
    exact ⟨some v, _, [], [], rfl, rfl, ⟨rfl, v, rfl, h1⟩, slots_start n h2⟩
theorem sat_start {K : PySem.W.Frag} {mg : Str → Option Value} {b : Bool} {κ : List Addr} {G H : Hp} {S : Cells} {N : List Str} {xs : List Val} {vs : List V} (w : Wd K mg κ G H S) (h : RepL K mg κ G xs vs) :
    Sat K mg b ⟨κ, G, H, S, κ, G⟩ (startE N xs) S κ G (L2.start N vs) H := by
  refine ⟨⟨ExtB.refl w, Pre.refl _, Le.refl _⟩, [], ?_, List.nodup_nil, fun a z => nomatch z⟩
  unfold startE L2.start
  rw [h.length]
  exact slots_start _ h
/-- A DEF BY ITS BODY -/
theorem fnG_of {P : Program} {w : World} {K : PySem.W.Frag} {mg : Str → Option Value} {base : Heap} {k : Nat} {f : Addr} {name qual : Str} {params : Arguments} {body : List Stmt} {scope : Scope} {dV kV doc pm cdv ct oc : Value} {an od : Option Addr}
    {osl : Array (Option Value)} {N ps : List Str} {g : List Val → m Val} (lk : K.lookup f = some ⟨oc, od, .func (PySem.W.fnOf name qual params body scope dV kV doc pm an cdv ct), osl⟩) (hcd : PySem.W.codeIn K cdv qual = true) (Sc : FnScope N ps scope) (hlen : ∀ xs, xs.length ≠ ps.length → g xs = Mon.of .stuck)
    (hb : ∀ (A : Around) (outer : List PySem.Env) (s : Shared) (H : Hp) (E : XK) (xs : List Val), CtxF (cxOf (L2.CX P w) P w K mg base N qual scope f cdv A outer s H E) N scope k → xs.length = ps.length →
      Sx (cxOf (L2.CX P w) P w K mg base N qual scope f cdv A outer s H E) (startE N xs) body [] (g xs) .rr) :
    FnG P w K mg base (k + 1) f (PySem.W.fnOf name qual params body scope dV kV doc pm an cdv ct) ps g := by
  refine ⟨hlen, fun A outer s H args us vs Q E κ G S xs hr hgd e0 hbi r hl wd rl hp => ?_⟩
  have kx : K.In s.heap := e0.mod.kin.keeps fun b o e => (e0.bs b o e).1
  have nl : s.heap.NoLimit := e0.mod.nolimit.keeps fun b o e => (e0.bs b o e).1
  have nm : ∀ y ∈ ps.zip us, scope.names.lookup y.1 = some .local ∨ (scope.names.lookup y.1 = some .cell ∧ ((cellsFrom (s.heap.objs.size + 1) scope.names []).lookup y.1).isSome = true) := by
    rintro ⟨n, v⟩ hy
    have hm := (List.of_mem_zip hy).1
    cases Sc.par n hm with
    | inl q => exact .inl q
    | inr q => exact .inr ⟨q, PySem.W.cellsFrom_some _ _ _ (.inl q)⟩
  apply codeAny_call_function hr.depth (kx _ _ lk) rfl Sc.co Sc.gen rfl (PySem.W.codeRec_of kx hcd)
  apply hbi
  apply wpAny_newFunctionEnv_cells Sc.kind nm
  intro env he s1 x
  subst he
  refine ⟨nl.keeps x.toInCall.keep, codeAny_func ?_⟩
  have I := inv_start (CX := L2.CX P w) (qual := qual) (f := f) (cd := cdv) (E := E) Sc hr.hd e0 hl r x
  have cx : CtxF (cxOf (L2.CX P w) P w K mg base N qual scope f cdv A outer s H E) N scope k := ⟨⟨rfl, rfl, rfl, Sc.nd, hgd, hr.deeper _, passes_of rfl⟩, fun _ => rfl⟩
  have hx := hb A outer s H E xs cx (by rw [← rl.length]; exact hl)
  have wp := hx ⟨κ, G, H, S, κ, G⟩ S κ G (L2.start N vs) H (sat_start wd rl) (fun cls d _ H => E cls d H) (takes_of (E := E) rfl rfl rfl rfl) { nx := fun _ H' => Q .non H', rt := Q } (by
    revert hp
    cases Mon.run (g xs) S with
    | mk q S' =>
      cases q with
      | ok z => exact fun hp => ⟨fun κ' G' H' v e r => hp κ' G' H' v e.x r, fun e κ' G' σ' H' x => hp κ' G' H' .non x.x (by subst e; unfold Rep; rfl)⟩
      | exn c fs => exact fun hp κ' G' σ' H' cls d e r => hp κ' G' H' cls d e.x r
      | stuck => exact fun z => z)
  refine wpAny_mono (wp.run [] s1 I) (fun fl s' hs => ?_) fun e s' hs => hs
  cases fl with
  | ret u => obtain ⟨v, σ', H', J, rv, q⟩ := hs; exact ⟨v, H', J.os, J.bare, J.base, J.hok, rv, q⟩
  | next => obtain ⟨σ', H', J, q⟩ := hs; exact ⟨.non, H', J.os, J.bare, J.base, J.hok, rfl, q⟩
  | brk => obtain ⟨_, _, _, q⟩ := hs; exact q.elim
  | cont => obtain ⟨_, _, _, q⟩ := hs; exact q.elim
end
/-! ### a call -/
section
variable {X : Cx} {N : List Str} {sc : Scope} {k j : Nat} {E : Env} {m : Type → Type} [Mon m] {f : Addr} {fd : FuncData} {ps : List Str} {g : List Val → m Val}
theorem runG {pins : List (Addr × Obj)} {σ : St} {H : Hp} {s : Shared} {Q : VK} {us : List Value} {vs : List V} {κ : List Addr} {G : Hp} {S : Cells} {xs : List Val} {W : WX} (c : Ctx X N sc k) (F : FnG X.prog X.w X.K X.mg X.base j f fd ps g) (hj : j ≤ k) (hb : Binds X.K fd ps []) (tk : Takes X W)
    (I : L2.Inv X pins σ H s) (r : Vals vs us) (wd : Wd X.K X.mg κ G H S) (rl : RepL X.K X.mg κ G xs vs) (h : Post X.K X.mg (Mon.pu m) (Rep X.K X.mg) κ G H S (Mon.run (g xs) S) Q (fun c d H' => W c d σ H')) :
    wpAny (model X.prog X.w) X.A (call (.ref f) us) (EP X pins σ Q) X.xe s := by
  have hl : vs.length = ps.length := by
    rw [rl.length]
    by_cases e : xs.length = ps.length
    · exact e
    · rw [F.len xs e, Mon.run_of] at h
      exact h.elim
  have lu : (us ++ []).length = ps.length := by rw [List.append_nil, ← r.length]; exact hl
  have bt := hb s us I.kIn lu
  rw [List.append_nil] at bt
  refine wpAny_call (codeAny_mono (F.run X.A X.stack s H ⟨us, []⟩ us vs Q (fun c d H' => W c d σ H') κ G S xs (c.room.mono hj) c.gd I.env0 bt r hl wd rl h) fun fl s' q => ?_)
  cases fl with
  | error e => exact tk e s' (XE.of_call I (fun _ _ _ z => z) q)
  | ok z =>
    cases z with
    | ret u => exact I.after q
    | next => exact q.elim
    | brk => exact q.elim
    | cont => exact q.elim
/-- f(e, ..) -/
theorem ev_call (c : Ctx X N sc k) {x : Str} {p pos : Pos} {e : Expr} {es : List Expr} {rs : m (List Val)} (F : FnG X.prog X.w X.K X.mg X.base j f fd ps g) (hj : j ≤ k) (hb : Binds X.K fd ps []) (hg : glB sc x = true) (hm : X.mg x = some (.ref f)) (hk : PySem.W.keepIn X.K (.ref f) = true)
    (ha : Ea X E (e :: es) rs) (hs : noStars (e :: es) = true := by rfl) : Ev X E (.Call (.Name x p) (e :: es) [] pos) (rs >>= fun xs => g xs) := by
  intro B0 S κ G σ H sat W tk Q q
  obtain ⟨g1, g2, _⟩ := c.gl hg
  obtain ⟨s1, s2⟩ := Bool.and_eq_true_iff.mp hs
  refine ⟨fun pins s I => ?_⟩
  refine wpAny_Call_Name_kw (ld_glob I g1 hm ?_ g2)
  refine PySem.W.callWith_K (h₀ := X.base) I.ok.mod.kin hk (thn ((ha B0 S κ G σ H sat W tk _ (bindP q)).run pos pins s I) fun us s1 ⟨vs, H1, I1, r, a, κ1, G1, S1, w1, r1, h1⟩ => ⟨I1.kIn, ?_⟩) (star_of s1 es X.env) (plain_of s2 pos X.env)
  exact runG c F hj hb tk I1 r w1.e.w r1 h1
theorem ev_call0 (c : Ctx X N sc k) {x : Str} {p pos : Pos} (F : FnG X.prog X.w X.K X.mg X.base j f fd [] g) (hj : j ≤ k) (hb : Binds X.K fd [] []) (hg : glB sc x = true) (hm : X.mg x = some (.ref f)) (hk : PySem.W.keepIn X.K (.ref f) = true) :
    Ev X E (.Call (.Name x p) [] [] pos) (g []) := by
  intro B0 S κ G σ H sat W tk Q q
  obtain ⟨g1, g2, _⟩ := c.gl hg
  refine ⟨fun pins s I => ?_⟩
  refine wpAny_Call_Name_kw (ld_glob I g1 hm ?_ g2)
  exact PySem.W.callWith_K0 I.kIn hk (runG (us := []) (vs := []) (xs := []) c F hj hb tk I .nil sat.w .nil q)
end
end Tv

namespace Tv
open PySem L2

section
variable {K : PySem.W.Frag} {mg : Str → Option Value} {b : Bool} {B0 : Bs} {κ : List Addr} {G H : Hp} {S : Cells} {E : Env} {σ : St}
/-- the slots of some places forgotten -/
def unset (E : Env) : List Nat → Env
  | [] => E
  | i :: is => (unset E is).set i .un
theorem Sat.unset (h : Sat K mg b B0 E S κ G σ H) : ∀ is, Sat K mg b B0 (unset E is) S κ G σ H
  | [] => h
  | i :: is => (Sat.unset h is).forget
theorem SlotsOk.wipe : ∀ {E : Env} {σ : St} {L : List Addr}, SlotsOk K mg κ G H E σ L → ∀ {i : Nat}, E[i]? = some .un → SlotsOk K mg κ G H E (σ.set i none) L
  | [], _, _, h, i, e => by simp at e
  | s :: E, _, _, h, 0, e => by
    obtain ⟨ov, r, L1, L2, e1, e2, h1, h2⟩ := h
    subst e1 e2
    simp at e; subst e
    exact ⟨none, r, L1, L2, rfl, rfl, h1, h2⟩
  | s :: E, _, _, h, i + 1, e => by
    obtain ⟨ov, r, L1, L2, e1, e2, h1, h2⟩ := h
    subst e1 e2
    exact ⟨ov, r.set i none, L1, L2, rfl, rfl, h1, SlotsOk.wipe h2 (i := i) (by simpa using e)⟩
theorem Sat.wipe1 (h : Sat K mg b B0 E S κ G σ H) {i : Nat} : Sat K mg b B0 (E.set i .un) S κ G (σ.set i none) H := by
  obtain ⟨x, L, so, nd, q⟩ := h.forget (i := i)
  by_cases hi : i < E.length
  · exact ⟨x, L, so.wipe (by rw [List.getElem?_set_self (by simpa using hi)]), nd, q⟩
  · obtain ⟨x, L, so, nd, q⟩ := h
    have hs : σ.length = E.length := so.length
    rw [List.set_eq_of_length_le (by omega), List.set_eq_of_length_le (by omega)]
    exact ⟨x, L, so, nd, q⟩
/-- a block's own names, wiped -/
theorem Sat.wipe (h : Sat K mg b B0 E S κ G σ H) : ∀ is, Sat K mg b B0 (Tv.unset E is) S κ G (L2.wipe σ is) H
  | [] => h
  | i :: is => (Sat.wipe h is).wipe1
/-- an owned list | dict | instance at a slot is changed -/
theorem SlotsOk.own : ∀ {E : Env} {σ : St} {L : List Addr}, SlotsOk K mg κ G H E σ L → L.Nodup → ∀ {i : Nat} {s s' : Slot} {ov : Option V} {L1 : List Addr} {H' : Hp}, E[i]? = some s → σ[i]? = some ov → SlotOk K mg κ G H s ov L1 → SlotOk K mg κ G H' s' ov L1 →
    (∀ a, a ∉ L1 → H' a = H a) → (∀ L1', SlotOk K mg κ G H s ov L1' → L1' = L1) → SlotsOk K mg κ G H' (E.set i s') σ L ∧ (∀ a ∈ L1, a ∈ L)
  | [], _, _, h, _, i, _, _, _, _, _, e, _, _, _, _, _ => by simp at e
  | t :: E, _, _, h, nd, 0, s, s', ov, L1, H', e, eo, h1, h2, hk, hu => by
    obtain ⟨ov', r, L1', L2, e1, e2, h3, h4⟩ := h
    subst e1 e2
    simp at e eo; subst e eo
    have := hu L1' h3
    subst this
    obtain ⟨n1, n2, n3⟩ := List.nodup_append.mp nd
    exact ⟨⟨ov', r, L1', L2, rfl, rfl, h2, h4.mono (Pre.refl _) (Le.refl _) fun a m => hk a fun z => n3 a z a m rfl⟩, fun a m => by simp [m]⟩
  | t :: E, _, _, h, nd, i + 1, s, s', ov, L1, H', e, eo, h1, h2, hk, hu => by
    obtain ⟨ov', r, L1', L2, e1, e2, h3, h4⟩ := h
    subst e1 e2
    obtain ⟨n1, n2, n3⟩ := List.nodup_append.mp nd
    obtain ⟨q1, q2⟩ := SlotsOk.own h4 n2 (i := i) (by simpa using e) (by simpa using eo) h1 h2 hk hu
    exact ⟨⟨ov', r, L1', L2, rfl, rfl, h3.mono (Pre.refl _) (Le.refl _) fun a m => hk a fun z => n3 a m a (q2 a z) rfl, q1⟩, fun a m => by simp [q2 a m]⟩
theorem o1_uniq {xs : List Val} {ov : Option V} {L L' : List Addr} (h : SlotOk K mg κ G H (.o1 xs) ov L) (h' : SlotOk K mg κ G H (.o1 xs) ov L') : L' = L := by
  obtain ⟨a, vs, e, e1, _⟩ := h
  obtain ⟨a', vs', e', e1', _⟩ := h'
  subst e e' e1
  cases e1'
  rfl
/-- the heap changes at an owned address -/
theorem Wd.own (w : Wd K mg κ G H S) {a : Addr} {o : HO} (hg : G a = none) (hk : a ∉ κ) : Wd K mg κ G (L2.upd H a o) S := by
  refine ⟨fun x u h => ?_, w.nd, w.ap, w.len, fun n x c h1 h2 => ?_⟩
  · rw [upd_ne (fun e => by rw [e, hg] at h; cases h)]; exact w.le x u h
  · have ha : x ≠ a := fun e => hk (e ▸ List.mem_of_getElem? h1)
    have q := w.cel n x c h1 h2
    cases c with
    | lst xs => obtain ⟨vs, e, r⟩ := q; exact ⟨vs, by rw [upd_ne ha]; exact e, r⟩
    | obj C fs => obtain ⟨Ca, dx, vs, e0, e, r⟩ := q; exact ⟨Ca, dx, vs, e0, by rw [upd_ne ha]; exact e, r⟩
    | dic xs => obtain ⟨vs, e, r⟩ := q; exact ⟨vs, by rw [upd_ne ha]; exact e, r⟩
    | _ => exact q.elim
theorem ExtS.own (x : ExtS K mg b B0 κ G H S) {a : Addr} {o : HO} (h0 : B0.H a = none) (hg : G a = none) (hk : a ∉ κ) : ExtS K mg b B0 κ G (L2.upd H a o) S := by
  obtain ⟨x, pf, lf⟩ := x
  refine ⟨⟨⟨x.e.pre, x.e.le, fun c u h n => ?_, x.e.newG, x.e.newC, x.e.w.own hg hk⟩, fun p => ?_⟩, pf, lf⟩
  · rw [upd_ne (fun e => by rw [e, h0] at h; cases h)]; exact x.e.keep c u h n
  · obtain ⟨p1, p2, p3⟩ := x.p p
    exact ⟨p1, p2, fun c u h => by rw [upd_ne (fun e => by rw [e, h0] at h; cases h)]; exact p3 c u h⟩
theorem Sat.setO1 (h : Sat K mg b B0 E S κ G σ H) {i : Nat} {xs ys : List Val} (he : E[i]? = some (.o1 xs)) :
    ∃ a vs, σ[i]? = some (some (.ref a)) ∧ H a = some (.lst vs) ∧ RepL K mg κ G xs vs ∧ (∀ ws, RepL K mg κ G ys ws → Sat K mg b B0 (E.set i (.o1 ys)) S κ G σ (L2.upd H a (.lst ws))) := by
  obtain ⟨x, L, so, nd, q⟩ := h
  obtain ⟨ov, L1, h1, h2, h3⟩ := so.get he
  obtain ⟨a, vs, e1, e2, e3, e4⟩ := id h2
  subst e1 e2
  have ha := q a (h3 a (by simp))
  refine ⟨a, vs, h1, e3, e4, fun ws rw_ => ?_⟩
  obtain ⟨so2, _⟩ := so.own nd he h1 h2 (s' := .o1 ys) (H' := L2.upd H a (.lst ws)) ⟨a, ws, rfl, rfl, upd_same, rw_⟩ (fun c hc => upd_ne (fun e => hc (by simp [e]))) (fun L' h' => o1_uniq h2 h')
  refine ⟨x.own ha.1 ha.2.1 ha.2.2.1, L, so2, nd, fun c hc => ?_⟩
  obtain ⟨q1, q2, q3, q4⟩ := q c hc
  refine ⟨q1, q2, q3, ?_⟩
  by_cases e : c = a
  · subst e; rw [upd_same]; exact fun z => nomatch z
  · rw [upd_ne e]; exact q4
/-- a fresh list comes ahead of the slots -/
theorem Sat.push (h : Sat K mg b B0 E S κ G σ H) {p : Addr} (hp : H p = none) : Sat K mg b B0 (.o1 [] :: E) S κ G (some (.ref p) :: σ) (L2.upd H p (.lst [])) := by
  obtain ⟨x, L, so, nd, q⟩ := h
  have gp : G p = none := by
    cases e : G p with
    | none => rfl
    | some u => rw [x.x.e.w.le p u e] at hp; cases hp
  have kp : p ∉ κ := fun m => x.x.e.w.there m hp
  have h0 : B0.H p = none := by
    cases e : B0.H p with
    | none => rfl
    | some o =>
      by_cases m : p ∈ B0.κ
      · exact absurd (x.x.e.pre.mem m) kp
      · rw [x.x.e.keep p o e m] at hp; cases hp
  have pl : p ∉ L := fun m => (q p m).2.2.2 hp
  refine ⟨x.own h0 gp kp, p :: L, ⟨some (.ref p), σ, [p], L, rfl, rfl, ⟨p, [], rfl, rfl, upd_same, .nil⟩, so.mono (Pre.refl _) (Le.refl _) fun a m => upd_ne fun e => pl (e ▸ m)⟩, List.nodup_cons.mpr ⟨pl, nd⟩, fun a m => ?_⟩
  rcases List.mem_cons.mp m with m | m
  · subst m; exact ⟨h0, gp, kp, by rw [upd_same]; exact fun z => nomatch z⟩
  · obtain ⟨q1, q2, q3, q4⟩ := q a m
    exact ⟨q1, q2, q3, by rw [upd_ne (show a ≠ p from fun e => pl (e ▸ m))]; exact q4⟩
theorem Sat.tail {s : Slot} {ov : Option V} (h : Sat K mg b B0 (s :: E) S κ G (ov :: σ) H) : Sat K mg b B0 E S κ G σ H := by
  obtain ⟨x, L, ⟨ov', r, L1, Lr, e1, e2, h1, h2⟩, nd, q⟩ := h
  cases e1
  subst e2
  exact ⟨x, Lr, h2, (List.nodup_append.mp nd).2.1, fun a m => q a (by simp [m])⟩
/-- what is owned at a slot is frozen -/
theorem ExtS.freeze (x : ExtS K mg b B0 κ G H S) {a : Addr} {o : HO} (h0 : B0.H a = none) (hg : G a = none) (hk : a ∉ κ) (ha : H a = some o) : ExtS K mg b B0 κ (L2.upd G a o) H S ∧ Le G (L2.upd G a o) := by
  have lg : Le G (L2.upd G a o) := fun c u h => by rw [upd_ne (fun e => by rw [e, hg] at h; cases h)]; exact h
  obtain ⟨x, pf, lf⟩ := x
  refine ⟨⟨⟨⟨x.e.pre, x.e.le.trans lg, x.e.keep, fun c h g => ?_, x.e.newC, ⟨fun c u h => ?_, x.e.w.nd, fun c h => ?_, x.e.w.len, fun n c v h1 h2 => ?_⟩⟩, x.p⟩, pf, lf.trans lg⟩, lg⟩
  · rw [upd_ne (show c ≠ a from fun e => (by subst e; exact h h0))]; exact x.e.newG c h g
  · by_cases e : c = a
    · subst e; rw [upd_same] at h; cases h; exact ha
    · rw [upd_ne e] at h; exact x.e.w.le c u h
  · rw [upd_ne (show c ≠ a from fun e => hk (e ▸ h))]; exact x.e.w.ap c h
  · have q := x.e.w.cel n c v h1 h2
    cases v with
    | lst xs => obtain ⟨vs, e, r⟩ := q; exact ⟨vs, e, r.mono (Pre.refl _) lg⟩
    | obj C fs => obtain ⟨Ca, dx, vs, e0, e, r⟩ := q; exact ⟨Ca, dx, vs, e0, e, r.mono (Pre.refl _) lg⟩
    | dic xs => obtain ⟨vs, e, r⟩ := q; exact ⟨vs, e, r.mono (Pre.refl _) lg⟩
    | _ => exact q.elim
theorem Sat.freeze1 (h : Sat K mg b B0 E S κ G σ H) {i : Nat} {xs : List Val} (he : E[i]? = some (.o1 xs)) : ∃ G', Sat K mg b B0 (E.set i (.fz (.lst xs))) S κ G' σ H := by
  obtain ⟨x, L, so, nd, q⟩ := h
  obtain ⟨ov, L1, h1, h2, h3⟩ := so.get he
  obtain ⟨a, vs, e1, e2, e3, e4⟩ := id h2
  subst e1 e2
  obtain ⟨q1, q2, q3, q4⟩ := q a (h3 a (by simp))
  obtain ⟨x2, lg⟩ := x.freeze q1 q2 q3 e3
  refine ⟨L2.upd G a (.lst vs), ?_⟩
  have so2 := so.mono (H1 := H) (Pre.refl κ) lg fun _ _ => rfl
  have hi : i < E.length := (List.getElem?_eq_some_iff.mp he).1
  -- the owned part is let go
  have key : ∀ {E : Env} {σ : St} {L : List Addr} {i : Nat}, SlotsOk K mg κ (L2.upd G a (.lst vs)) H E σ L → L.Nodup → E[i]? = some (.o1 xs) → σ[i]? = some (some (.ref a)) →
      ∃ LL, SlotsOk K mg κ (L2.upd G a (.lst vs)) H (E.set i (.fz (.lst xs))) σ LL ∧ LL.Nodup ∧ (∀ c ∈ LL, c ∈ L) ∧ a ∉ LL := by
    intro E
    induction E with
    | nil => intro σ L i _ _ e; simp at e
    | cons s E ih =>
      intro σ L i so nd e eo
      obtain ⟨ov, r, L1, Lr, z1, z2, g1, g2⟩ := so
      subst z1 z2
      obtain ⟨n1, n2, n3⟩ := List.nodup_append.mp nd
      cases i with
      | zero =>
        simp at e eo; subst e eo
        obtain ⟨a', vs', y1, y2, y3, y4⟩ := g1
        cases y2
        subst y1
        refine ⟨Lr, ⟨some (.ref a), r, [], Lr, rfl, rfl, ⟨rfl, _, rfl, ?_⟩, g2⟩, n2, fun c m => by simp [m], fun m => n3 a (by simp) a m rfl⟩
        unfold Rep
        exact ⟨a, vs, rfl, upd_same, e4.mono (Pre.refl _) lg⟩
      | succ i =>
        obtain ⟨L3, w1, w2, w3, w4⟩ := ih g2 n2 (by simpa using e) (by simpa using eo)
        have am : a ∈ Lr := by
          obtain ⟨ov', L', p1, p2, p3⟩ := g2.get (i := i) (by simpa using e)
          obtain ⟨a', vs', y1, y2, _⟩ := p2
          have z : ov' = some (.ref a) := by
            have t : r[i]? = some (some (.ref a)) := by simpa using eo
            rw [p1] at t
            exact Option.some.inj t
          rw [z] at y2
          cases y2
          subst y1
          exact p3 a (by simp)
        refine ⟨L1 ++ L3, ⟨ov, r, L1, L3, rfl, rfl, g1, w1⟩, List.nodup_append.mpr ⟨n1, w2, fun c m d m' e' => n3 c m d (w3 d m') e'⟩, fun c m => ?_, fun m => ?_⟩
        · rcases List.mem_append.mp m with m | m
          · simp [m]
          · simp [w3 c m]
        · rcases List.mem_append.mp m with m | m
          · exact n3 a m a am rfl
          · exact w4 m
  obtain ⟨LL, s2, n2, m2, na⟩ := key so2 nd he h1
  refine ⟨x2, LL, s2, n2, fun c m => ?_⟩
  obtain ⟨p1, p2, p3, p4⟩ := q c (m2 c m)
  exact ⟨p1, by rw [upd_ne (show c ≠ a from fun e => na (e ▸ m))]; exact p2, p3, p4⟩
end
end Tv

namespace Tv
open PySem L2

def notComp : Expr → Bool
  | .ListComp .. => false
  | .SetComp .. => false
  | .DictComp .. => false
  | _ => true
theorem swaps_of {e : Expr} (h : notComp e = true) (t : Option Expr) (l : Nat) (env : PySem.Env) : swapsWith e t l env = pure false := by
  cases e <;> first
    | rfl
    | cases h
/-- a name of the body that is stored -/
def locB (N : List Str) (sc : Scope) (i : Nat) (x : Str) : Bool := decide (N[i]? = some x) && decide (sc.names.lookup x = some .local)
structure Lc (N : List Str) (sc : Scope) (i : Nat) (x : Str) : Prop where
  h : locB N sc i x = true
theorem Lc.n {N : List Str} {sc : Scope} {i : Nat} {x : Str} (m : Lc N sc i x) : N[i]? = some x ∧ sc.names.lookup x = some .local := by
  have h := m.h
  unfold locB at h
  simpa using h

/-- .. local or a cell of its own -/
def locK (N : List Str) (sc : Scope) (i : Nat) (x : Str) : Bool := decide (N[i]? = some x) && (decide (sc.names.lookup x = some .local) || decide (sc.names.lookup x = some .cell))
structure Lk (N : List Str) (sc : Scope) (i : Nat) (x : Str) : Prop where
  h : locK N sc i x = true
theorem Lk.n {N : List Str} {sc : Scope} {i : Nat} {x : Str} (m : Lk N sc i x) : N[i]? = some x ∧ L2.Loc sc x := by
  have h := m.h
  unfold locK at h
  simpa [L2.Loc] using h

section
variable {X : Cx} {N : List Str} {sc : Scope} {k : Nat} {E : Env} {m : Type → Type} [Mon m] {ρ : Type} {enc : ρ → Out} {rest : List Stmt} {Ks : List (List Stmt)}

/-! ### what follows -/
theorem PostS.step {K : PySem.W.Frag} {mg : Str → Option Value} {p : Bool} {B0 : Bs} {r : Res ρ × Cells} {D : Ends} {W : WX} (h : PostS K mg p B0 r enc D W) : PostS K mg p B0 r enc D W := h
/-- an expression ahead of a block: what is wanted of it -/
theorem bindS {α γ : Type} {K : PySem.W.Frag} {mg : Str → Option Value} {R : List Addr → Hp → α → γ → Prop} {B0 : Bs} {κ : List Addr} {G H : Hp} {S : Cells} {σ : St} {x : m α} {f : α → m ρ} {D : Ends} {W : WX} {Q : γ → Hp → Prop}
    (sat : Sat K mg (Mon.pu m) B0 E S κ G σ H) (h : PostS K mg (Mon.pu m) B0 (Mon.run (x >>= f) S) enc D W)
    (q : ∀ a v κ1 G1 H1 S1, Sat K mg (Mon.pu m) B0 E S1 κ1 G1 σ H1 → R κ1 G1 a v → PostS K mg (Mon.pu m) B0 (Mon.run (f a) S1) enc D W → ExtB K mg (Mon.pu m) κ G H S κ1 G1 H1 S1 → Q v H1) :
    Post K mg (Mon.pu m) R κ G H S (Mon.run x S) Q (fun c d H' => W c d σ H') := by
  rw [Mon.run_bind] at h
  have h : PostS K mg (Mon.pu m) B0 (M.bind (Mon.run x) (fun a => Mon.run (f a)) S) enc D W := h
  unfold M.bind at h
  cases e : Mon.run x S with
  | mk r S' =>
    rw [e] at h
    cases r with
    | ok a => exact fun κ' G' H' v x r' => q a v κ' G' H' S' (sat.ext x) r' h x
    | exn c fs => exact fun κ' G' H' cls d x r' => h κ' G' σ H' cls d (sat.1.trans x) r'
    | stuck => exact h
theorem postPure {K : PySem.W.Frag} {mg : Str → Option Value} {p : Bool} {B0 : Bs} {S : Cells} {x : ρ} {D : Ends} {W : WX} (h : PostS K mg p B0 (Mon.run (m := m) (Pure.pure x) S) enc D W) :
    PostS K mg p B0 (.ok x, S) enc D W := by
  rw [Mon.run_pure] at h
  exact h

/-! ### the end of a block -/
theorem sx_stuck {ss : List Stmt} : Sx X E ss Ks (Mon.of .stuck : m ρ) enc := by
  intro B0 S κ G σ H sat W tk D h
  rw [Mon.run_of] at h
  exact h.elim
theorem sx_pop {ss : List Stmt} {r : m ρ} (h : Sx X E ss Ks r enc) : Sx X E [] (ss :: Ks) r enc := by
  intro B0 S κ G σ H sat W tk D q
  exact wss_of pss_nil (h B0 S κ G σ H sat W tk D q)
theorem sx_end {x : ρ} (h : enc x = .nx E) : Sx X E [] [] (Pure.pure x : m ρ) enc := by
  intro B0 S κ G σ H sat W tk D q
  have q2 : PostO X.K X.mg (Mon.pu m) B0 S D (enc x) := postPure q
  rw [h] at q2
  exact wss_of pss_nil (q2 κ G σ H sat)
theorem sx_endr : Sx X E [] [] (Pure.pure .non : m Val) .rr := by
  intro B0 S κ G σ H sat W tk D q
  have q2 := (postPure q).2
  exact wss_of pss_nil (q2 rfl κ G σ H sat.1)
/-- a value handed back -/
def IsRt (o : Out) (x : Val) : Prop := o = .rt x ∨ o = .rr x
theorem postRt {K : PySem.W.Frag} {mg : Str → Option Value} {p : Bool} {B0 : Bs} {κ : List Addr} {G H : Hp} {S : Cells} {x : ρ} {y : Val} {v : V} {D : Ends} {W : WX} (h : PostS K mg p B0 (.ok x, S) enc D W) (e : IsRt (enc x) y) (ex : ExtS K mg p B0 κ G H S) (r : Rep K mg κ G y v) : D.rt v H := by
  have h : PostO K mg p B0 S D (enc x) := h
  rcases e with e | e
  · rw [e] at h; exact h κ G H v ex r
  · rw [e] at h; exact h.1 κ G H v ex r
theorem sx_ret {e : Expr} {pos : Pos} {r : m Val} {f : Val → ρ} (h : Ev X E e r) (he : ∀ v, IsRt (enc (f v)) v) : Sx X E (.Return (some e) pos :: rest) Ks (r >>= fun v => Pure.pure (f v)) enc := by
  intro B0 S κ G σ H sat W tk D q
  refine wss_of (pss_cons (ps_ret pe_self) (pss_self (e := rest))) ?_
  refine h B0 S κ G σ H sat.weak W tk _ (bindS sat q fun x v κ1 G1 H1 S1 sat1 r1 h1 ex => ?_)
  have := postRt (postPure h1) (he x) sat1.1 r1
  show (DK X Ks D).rt v H1
  rw [DK_rt]; exact this
theorem sx_ret' {e : Expr} {pos : Pos} {r : m Val} (h : Ev X E e r) : Sx X E (.Return (some e) pos :: rest) Ks r .rr := by
  intro B0 S κ G σ H sat W tk D q
  refine wss_of (pss_cons (ps_ret pe_self) (pss_self (e := rest))) ?_
  refine h B0 S κ G σ H sat.weak W tk _ ?_
  cases z : Mon.run r S with
  | mk r S' =>
    rw [z] at q
    cases r with
    | ok x => exact fun κ' G' H' v x r' => (by show (DK X Ks D).rt v H'; rw [DK_rt]; exact q.1 κ' G' H' v (sat.1.trans x) r')
    | exn c fs => exact fun κ' G' H' cls d x r' => q κ' G' σ H' cls d (sat.1.trans x) r'
    | stuck => exact q
theorem sx_retN {pos : Pos} {x : ρ} (he : IsRt (enc x) .non) : Sx X E (.Return none pos :: rest) Ks (Pure.pure x : m ρ) enc := by
  intro B0 S κ G σ H sat W tk D q
  refine wss_of (pss_cons ps_retN (pss_self (e := rest))) ?_
  show (DK X Ks D).rt .non H
  rw [DK_rt]
  exact postRt (postPure q) he sat.1 (by unfold Rep; rfl)
theorem sx_brk {pos : Pos} {x : ρ} (he : enc x = .bk E) : Sx X E (.Break pos :: rest) Ks (Pure.pure x : m ρ) enc := by
  intro B0 S κ G σ H sat W tk D q
  refine wss_of (pss_cons ps_break (pss_self (e := rest))) ?_
  show (DK X Ks D).bk σ H
  rw [DK_bk]
  have q2 : PostO X.K X.mg (Mon.pu m) B0 S D (enc x) := postPure q
  rw [he] at q2
  exact q2 κ G σ H sat
theorem sx_cont {pos : Pos} {x : ρ} (he : enc x = .ct E) : Sx X E (.Continue pos :: rest) Ks (Pure.pure x : m ρ) enc := by
  intro B0 S κ G σ H sat W tk D q
  refine wss_of (pss_cons ps_continue (pss_self (e := rest))) ?_
  show (DK X Ks D).ct σ H
  rw [DK_ct]
  have q2 : PostO X.K X.mg (Mon.pu m) B0 S D (enc x) := postPure q
  rw [he] at q2
  exact q2 κ G σ H sat
theorem sx_pass {pos : Pos} {r : m ρ} (h : Sx X E rest Ks r enc) : Sx X E (.Pass pos :: rest) Ks r enc := by
  intro B0 S κ G σ H sat W tk D q
  exact wss_of (pss_cons ps_pass (pss_self (e := rest))) (h B0 S κ G σ H sat W tk D q)

/-! ### small statements -/
theorem sx_asg (c : CtxF X N sc k) (i : Nat) {x : Str} {e : Expr} {p pos : Pos} {r : m Val} {f : Val → m ρ} (hl : Lk N sc i x) (hi : i < E.length) (h : Ev X E e r) (hr : ∀ v, Sx X (E.set i (.fz v)) rest Ks (f v) enc) (hc : notComp e = true := by rfl) :
    Sx X E (.Assign [.Name x p] e pos :: rest) Ks (r >>= f) enc := by
  intro B0 S κ G σ H sat W tk D q
  obtain ⟨h1, h2⟩ := hl.n
  refine wss_of (pss_cons (ps_set (i := i) (by rw [c.n]; exact c.nd) (by rw [c.n]; exact h1) (by rw [c.sc]; exact h2) pe_self (swaps_of hc _ _ _) (.inl (c.fn _))) (pss_self (e := rest))) ?_
  refine h B0 S κ G σ H sat.weak W tk _ (bindS sat q fun x v κ1 G1 H1 S1 sat1 r1 h1 ex => ?_)
  exact hr x B0 S1 κ1 G1 _ H1 (sat1.setFz hi r1) W tk D h1
theorem sx_expr {e : Expr} {pos : Pos} {r : m Val} {r2 : m ρ} (h : Ev X E e r) (h2 : Sx X E rest Ks r2 enc) (hc : notComp e = true := by rfl) : Sx X E (.Expr e pos :: rest) Ks (r >>= fun _ => r2) enc := by
  intro B0 S κ G σ H sat W tk D q
  refine wss_of (pss_cons (ps_expr pe_self (swaps_of hc _ _ _)) (pss_self (e := rest))) ?_
  refine h B0 S κ G σ H sat.weak W tk _ (bindS sat q fun x v κ1 G1 H1 S1 sat1 r1 h1 ex => ?_)
  exact h2 B0 S1 κ1 G1 _ H1 sat1 W tk D h1
theorem sx_if {c : Expr} {a b : List Stmt} {pos : Pos} {rc : m Bool} {r1 r2 : m ρ} (hc : Et X E c rc) (h1 : Sx X E a (rest :: Ks) r1 enc) (h2 : Sx X E b (rest :: Ks) r2 enc) :
    Sx X E (.If c a b pos :: rest) Ks (rc >>= fun t => if t = true then r1 else r2) enc := by
  intro B0 S κ G σ H sat W tk D q
  refine wss_of (pss_cons (ps_if pt_self pss_self pss_self) (pss_self (e := rest))) ?_
  refine hc B0 S κ G σ H sat.weak W tk _ (bindS sat q fun x v κ1 G1 H1 S1 sat1 e1 h3 ex => ?_)
  subst e1
  cases x with
  | true =>
    rw [if_pos rfl] at h3 ⊢
    exact h1 B0 S1 κ1 G1 _ H1 sat1 W tk D h3
  | false =>
    rw [if_neg Bool.false_ne_true] at h3 ⊢
    exact h2 B0 S1 κ1 G1 _ H1 sat1 W tk D h3

/-! ### a statement by itself, then the rest -/
/-- how the rest goes on from an outcome -/
def Goes (X : Cx) (rest : List Stmt) (Ks : List (List Stmt)) (o : Out) (r : m ρ) (enc : ρ → Out) : Prop := match o with
  | .nx E1 => Sx X E1 rest Ks r enc
  | .rt x => ∃ y, r = Pure.pure y ∧ IsRt (enc y) x
  | .rr _ => False
  | .bk E1 => ∃ y, r = Pure.pure y ∧ enc y = .bk E1
  | .ct E1 => ∃ y, r = Pure.pure y ∧ enc y = .ct E1
/-- one statement by itself -/
def St1 (X : Cx) (E : Env) (s : Stmt) (r : m ρ) (enc : ρ → Out) : Prop :=
  ∀ B0 S κ G σ H, Sat X.K X.mg (Mon.pu m) B0 E S κ G σ H → ∀ W : WX, Takes X W → ∀ D : Ends, PostS X.K X.mg (Mon.pu m) B0 (Mon.run r S) enc D W → WS X s D σ H
theorem st_cast {s : Stmt} {r r' : m ρ} (h : St1 X E s r enc) (q : r = r') : St1 X E s r' enc := q ▸ h
theorem st_if {c : Expr} {a b : List Stmt} {pos : Pos} {rc : m Bool} {r1 r2 : m ρ} (hc : Et X E c rc) (h1 : Sx X E a [] r1 enc) (h2 : Sx X E b [] r2 enc) :
    St1 X E (.If c a b pos) (rc >>= fun t => if t = true then r1 else r2) enc := by
  intro B0 S κ G σ H sat W tk D q
  refine ws_of (ps_if pt_self pss_self pss_self) ?_
  refine hc B0 S κ G σ H sat.weak W tk _ (bindS sat q fun x v κ1 G1 H1 S1 sat1 e1 h3 ex => ?_)
  subst e1
  cases x with
  | true =>
    rw [if_pos rfl] at h3 ⊢
    exact h1 B0 S1 κ1 G1 _ H1 sat1 W tk D h3
  | false =>
    rw [if_neg Bool.false_ne_true] at h3 ⊢
    exact h2 B0 S1 κ1 G1 _ H1 sat1 W tk D h3
theorem sx_seq {ρ1 : Type} {s : Stmt} {r1 : m ρ1} {enc1 : ρ1 → Out} {f : ρ1 → m ρ} (h : St1 X E s r1 enc1) (hg : ∀ a, Goes X rest Ks (enc1 a) (f a) enc) : Sx X E (s :: rest) Ks (r1 >>= f) enc := by
  intro B0 S κ G σ H sat W tk D q
  refine wss_of (pss_cons (ps_self (e := s)) (pss_self (e := rest))) ?_
  refine h B0 S κ G σ H sat W tk _ ?_
  rw [Mon.run_bind] at q
  have q : PostS X.K X.mg (Mon.pu m) B0 (M.bind (Mon.run r1) (fun a => Mon.run (f a)) S) enc D W := q
  unfold M.bind at q
  cases e : Mon.run r1 S with
  | mk r S' =>
    rw [e] at q
    cases r with
    | ok a =>
      have g := hg a
      have q : PostS X.K X.mg (Mon.pu m) B0 (Mon.run (f a) S') enc D W := q
      show PostO X.K X.mg (Mon.pu m) B0 S' _ (enc1 a)
      cases z : enc1 a with
      | nx E1 => rw [z] at g; exact fun κ G σ H sat1 => g B0 S' κ G σ H sat1 W tk D q
      | rt x =>
        rw [z] at g
        obtain ⟨y, e1, e2⟩ := g
        rw [e1] at q
        intro κ G H v ex r'
        show (DK X Ks D).rt v H
        rw [DK_rt]
        exact postRt (postPure q) e2 ex r'
      | rr x => rw [z] at g; exact g.elim
      | bk E1 =>
        rw [z] at g
        obtain ⟨y, e1, e2⟩ := g
        rw [e1] at q
        have q2 : PostO X.K X.mg (Mon.pu m) B0 S' D (enc y) := postPure q
        rw [e2] at q2
        intro κ G σ H sat1
        show (DK X Ks D).bk σ H
        rw [DK_bk]; exact q2 κ G σ H sat1
      | ct E1 =>
        rw [z] at g
        obtain ⟨y, e1, e2⟩ := g
        rw [e1] at q
        have q2 : PostO X.K X.mg (Mon.pu m) B0 S' D (enc y) := postPure q
        rw [e2] at q2
        intro κ G σ H sat1
        show (DK X Ks D).ct σ H
        rw [DK_ct]; exact q2 κ G σ H sat1
    | exn c fs => exact q
    | stuck => exact q
end
end Tv

namespace Tv
open PySem L2

/-- how a turn of a loop ends -/
inductive Fl (ρ τ : Type) where
  | nx (st : ρ)
  | ct (st : ρ)
  | bk (st : ρ)
  | rt (t : τ)
section
variable {m : Type → Type} [Mon m] {ρ τ : Type}
def forM' (step : ρ → Val → m (Fl ρ τ)) : List Val → ρ → m (Fl ρ τ)
  | [], st => Pure.pure (.nx st)
  | x :: xs, st => step st x >>= fun
    | .nx st' => forM' step xs st'
    | .ct st' => forM' step xs st'
    | .bk st' => Pure.pure (.nx st')
    | .rt t => Pure.pure (.rt t)
def whileM' (tst : ρ → m Bool) (step : ρ → m (Fl ρ τ)) : Nat → ρ → m (Fl ρ τ)
  | 0, _ => Mon.of .stuck
  | n + 1, st => tst st >>= fun b => if b = true then step st >>= fun
    | .nx st' => whileM' tst step n st'
    | .ct st' => whileM' tst step n st'
    | .bk st' => Pure.pure (.nx st')
    | .rt t => Pure.pure (.rt t)
    else Pure.pure (.nx st)
def encL (enc0 : ρ → Env) (tv : τ → Val) : Fl ρ τ → Out
  | .nx st => .nx (enc0 st)
  | .ct st => .ct (enc0 st)
  | .bk st => .bk (enc0 st)
  | .rt t => .rt (tv t)
end

/-! ### what is walked -/
structure ItR (K : PySem.W.Frag) (mg : Str → Option Value) (κ : List Addr) (G : Hp) (items : List Val) (J : It) : Prop where
  go : ∀ i H, Le G H → i < items.length → J.go i H
  stop : ∀ H, Le G H → J.stop items.length H
  yld : ∀ i H x H', Le G H → J.yld i H x H' → ∀ it, items[i]? = some it → (H' = H ∧ Rep K mg κ G it x) ∨ ∃ T vs ys, H T = none ∧ H' = L2.upd H T (.tup vs) ∧ x = .ref T ∧ it = .tup ys ∧ RepL K mg κ G ys vs
structure WI (X : Cx) (tg iter : Expr) (σ : St) (H : Hp) (R : It → Hp → Prop) : Prop where
  run : ∀ (pins : List (Addr × Obj)) (s : Shared), L2.Inv X pins σ H s →
  wpAny (model X.prog X.w) X.A (eval iter X.env) (fun v s1 => wpAny (model X.prog X.w) X.A (pyIter v) (PIE X pins σ tg R) X.xe s1) X.xe s
theorem pi_self {X : Cx} {tg iter : Expr} : PI X tg iter (WI X tg iter) := ⟨fun pins s _ _ _ I h => h.run pins s I⟩
theorem wi_of {X : Cx} {tg iter : Expr} {wi : TI} (h : PI X tg iter wi) {σ : St} {H : Hp} {R : It → Hp → Prop} (q : wi σ H R) : WI X tg iter σ H R := ⟨fun pins s I => h.run pins s σ H R I q⟩
structure WG (X : Cx) (tg : Expr) (v : V) (σ : St) (H : Hp) (Q : St → Hp → Prop) : Prop where
  run : ∀ (pins : List (Addr × Obj)) (s : Shared) (u : Value), L2.Inv X pins σ H s → RelV v u →
  wpAny (model X.prog X.w) X.A (assign tg X.env u) (fun _ s' => ∃ σ' H', L2.Inv X pins σ' H' s' ∧ Q σ' H') X.xe s
theorem pg_self {X : Cx} {tg : Expr} : PG X tg (WG X tg) := ⟨fun pins s _ _ v u _ I r h => h.run pins s u I r⟩
theorem wg_of {X : Cx} {tg : Expr} {g : TG} (h : PG X tg g) {v : V} {σ : St} {H : Hp} {Q : St → Hp → Prop} (q : g v σ H Q) : WG X tg v σ H Q := ⟨fun pins s u I r => h.run pins s σ H v u Q I r q⟩

section
variable {X : Cx} {N : List Str} {sc : Scope} {k : Nat} {E : Env} {m : Type → Type} [Mon m] {ρ : Type} {enc : ρ → Out}
def Wi (X : Cx) (E : Env) (tg iter : Expr) (r : m (List Val)) : Prop :=
  ∀ B0 S κ G σ H, Sat X.K X.mg false B0 E S κ G σ H → ∀ W : WX, Takes X W → ∀ R : It → Hp → Prop, Post X.K X.mg (Mon.pu m) (ItR X.K X.mg) κ G H S (Mon.run r S) R (fun c d H' => W c d σ H') → WI X tg iter σ H R
/-- the target takes x, then the block -/
def Tb (X : Cx) (E : Env) (tg : Expr) (x : Val) (body : List Stmt) (r : m ρ) (enc : ρ → Out) : Prop :=
  ∀ B0 S κ G σ H, Sat X.K X.mg (Mon.pu m) B0 E S κ G σ H → ∀ v, Rep X.K X.mg κ G x v → ∀ W : WX, Takes X W → ∀ D : Ends, PostS X.K X.mg (Mon.pu m) B0 (Mon.run r S) enc D W →
    WG X tg v σ H fun σ2 H2 => WSs X body D σ2 H2
theorem Ctx.pg (c : Ctx X N sc k) {i : Nat} {x : Str} {pos : Pos} (hl : Lc N sc i x) : PG X (.Name x pos) (gName i) := by
  obtain ⟨h1, h2⟩ := hl.n
  exact pg_name (by rw [c.n]; exact c.nd) (by rw [c.n]; exact h1) (by rw [c.sc]; exact .inl h2) (.inr (by rw [c.sc]; exact h2))
theorem CtxF.pgk (c : CtxF X N sc k) {i : Nat} {x : Str} {pos : Pos} (hl : Lk N sc i x) : PG X (.Name x pos) (gName i) := by
  obtain ⟨h1, h2⟩ := hl.n
  exact pg_name (by rw [c.n]; exact c.nd) (by rw [c.n]; exact h1) (by rw [c.sc]; exact h2) (.inl (c.fn _))
theorem tb_name (c : CtxF X N sc k) (i : Nat) {x : Str} {pos : Pos} {v : Val} {body : List Stmt} {r : m ρ} (hl : Lk N sc i x) (hi : i < E.length) (h : Sx X (E.set i (.fz v)) body [] r enc) : Tb X E (.Name x pos) v body r enc := by
  intro B0 S κ G σ H sat u ru W tk D q
  exact wg_of (c.pgk hl) (h B0 S κ G _ H (sat.setFz hi ru) W tk D q)
def on2 {α : Type} (x : Val) (f : Val → Val → m α) : m α := match x with
  | .tup [a, b] => f a b
  | _ => Mon.of .stuck
def on3 {α : Type} (x : Val) (f : Val → Val → Val → m α) : m α := match x with
  | .tup [a, b, c] => f a b c
  | _ => Mon.of .stuck
theorem on2_cases {α : Type} (x : Val) (f : Val → Val → m α) : (∃ a b, x = .tup [a, b] ∧ on2 x f = f a b) ∨ on2 x f = Mon.of .stuck := by
  unfold on2
  split
  · exact .inl ⟨_, _, rfl, rfl⟩
  · exact .inr rfl
theorem tb_tup2 (c : CtxF X N sc k) (i j : Nat) {x y : Str} {p1 p2 pos : Pos} {kk} {v : Val} {body : List Stmt} {r : Val → Val → m ρ} (hx : Lk N sc i x) (hy : Lk N sc j y) (hi : i < E.length) (hj : j < E.length)
    (h : ∀ a b, Sx X ((E.set i (.fz a)).set j (.fz b)) body [] (r a b) enc) : Tb X E (.Tuple [.Name x p1, .Name y p2] kk pos) v body (on2 v r) enc := by
  intro B0 S κ G σ H sat u ru W tk D q
  refine wg_of (pg_tup (n := 2) c.calm (pgs_cons (c.pgk hx) (pgs_cons (c.pgk hy) pgs_nil))) ?_
  rcases on2_cases v r with ⟨a, b, e, er⟩ | er
  · rw [er] at q
    subst e
    unfold Rep at ru
    obtain ⟨ad, vs, e1, hq, rl⟩ := ru
    subst e1
    unfold RepL at rl
    obtain ⟨va, r1, e2, ra, rl⟩ := rl
    unfold RepL at rl
    obtain ⟨vb, r2, e3, rb, rl⟩ := rl
    unfold RepL at rl
    subst e2 e3 rl
    refine ⟨ad, _, rfl, sat.w.le.sqT hq, rfl, va, _, rfl, vb, _, rfl, rfl, ?_⟩
    have s1 := sat.setFz hi ra
    have s2 := s1.setFz (i := j) (by simpa using hj) rb
    exact h a b B0 S κ G _ H s2 W tk D q
  · rw [er, Mon.run_of] at q
    exact q.elim

/-! ### for -/
theorem forM'_run_nil {τ : Type} {step : ρ → Val → m (Fl ρ τ)} {st : ρ} {S : Cells} : Mon.run (forM' step [] st) S = (.ok (.nx st), S) := by
  unfold forM'
  rw [Mon.run_pure]; rfl
def Bs.fl (B : Bs) (κ : List Addr) (G : Hp) : Bs := { B with κf := κ, Gf := G }
theorem ExtS.unfl {K : PySem.W.Frag} {mg : Str → Option Value} {b : Bool} {B0 : Bs} {κ1 κ : List Addr} {G1 G H : Hp} {S : Cells} (pf : Pre B0.κf κ1) (lf : Le B0.Gf G1) (h : ExtS K mg b (B0.fl κ1 G1) κ G H S) : ExtS K mg b B0 κ G H S := ⟨h.x, pf.trans h.pf, lf.trans h.lf⟩
theorem Sat.unfl {K : PySem.W.Frag} {mg : Str → Option Value} {b : Bool} {B0 : Bs} {κ1 κ : List Addr} {G1 G H : Hp} {S : Cells} {σ : St} (pf : Pre B0.κf κ1) (lf : Le B0.Gf G1) (h : Sat K mg b (B0.fl κ1 G1) E S κ G σ H) : Sat K mg b B0 E S κ G σ H := by
  obtain ⟨x, r⟩ := h
  exact ⟨x.unfl pf lf, r⟩
theorem Sat.fl {K : PySem.W.Frag} {mg : Str → Option Value} {b : Bool} {B0 : Bs} {κ1 κ : List Addr} {G1 G H : Hp} {S : Cells} {σ : St} (pf : Pre κ1 κ) (lf : Le G1 G) (h : Sat K mg b B0 E S κ G σ H) : Sat K mg b (B0.fl κ1 G1) E S κ G σ H := by
  obtain ⟨x, r⟩ := h
  exact ⟨⟨x.x, pf, lf⟩, r⟩
/-- a turn's own end, from the whole loop's -/
theorem turn_post {τ : Type} {K : PySem.W.Frag} {mg : Str → Option Value} {p : Bool} {B0 : Bs} {κ1 : List Addr} {G1 : Hp} {S' : Cells} {enc0 : ρ → Env} {tv : τ → Val} {D : Ends} {W : WX} {r : M (Fl ρ τ)} {go : ρ → M (Fl ρ τ)} {Nx : St → Hp → Prop}
    (pf : Pre B0.κf κ1) (lf : Le B0.Gf G1)
    (h : PostS K mg p B0 (M.bind r (fun fl => match fl with | .nx st' => go st' | .ct st' => go st' | .bk st' => Pure.pure (.nx st') | .rt t => Pure.pure (.rt t)) S') (encL enc0 tv) D W)
    (hN : ∀ st S' κ' G' σ' H', Sat K mg p (B0.fl κ1 G1) (enc0 st) S' κ' G' σ' H' → PostS K mg p B0 (go st S') (encL enc0 tv) D W → Nx σ' H') :
    PostS K mg p (B0.fl κ1 G1) (r S') (encL enc0 tv) { D with nx := Nx, ct := Nx, bk := D.nx } W := by
  unfold M.bind at h
  cases e : r S' with
  | mk q S2 =>
    rw [e] at h
    cases q with
    | stuck => exact h
    | exn c fs => exact fun κ G σ H cls d x => h κ G σ H cls d (x.unfl pf lf)
    | ok fl =>
      cases fl with
      | nx st => exact fun κ G σ H sat => hN st S2 κ G σ H sat h
      | ct st => exact fun κ G σ H sat => hN st S2 κ G σ H sat h
      | bk st => exact fun κ G σ H sat => (show PostO K mg p B0 S2 D (.nx (enc0 st)) from h) κ G σ H (sat.unfl pf lf)
      | rt t => exact fun κ G H v x => (show PostO K mg p B0 S2 D (.rt (tv t)) from h) κ G H v (x.unfl pf lf)
theorem forM'_run_cons {τ : Type} {step : ρ → Val → m (Fl ρ τ)} {st : ρ} {x : Val} {xs : List Val} {S : Cells} : Mon.run (forM' step (x :: xs) st) S = M.bind (Mon.run (step st x)) (fun fl => match fl with | .nx st' => Mon.run (forM' step xs st') | .ct st' => Mon.run (forM' step xs st') | .bk st' => Pure.pure (.nx st') | .rt t => Pure.pure (.rt t)) S := by
  conv => lhs; unfold forM'
  rw [Mon.run_bind]
  show M.bind _ _ S = M.bind _ _ S
  congr 1
  funext fl
  cases fl <;> first | rfl | exact Mon.run_pure _
theorem for_core (c : Ctx X N sc k) {τ : Type} {tg iter : Expr} {body : List Stmt} {pos : Pos} {ri : m (List Val)} {step : ρ → Val → m (Fl ρ τ)} (enc0 : ρ → Env) (tv : τ → Val) (is : List Nat) (st0 : ρ) (hE : unset E is = enc0 st0)
    (hb : ∀ st x, Tb X (enc0 st) tg x body (step st x) (encL enc0 tv)) (hfs : ∀ env x, foldedSetIterable iter env x = pure x)
    {B0 : Bs} {S : Cells} {κ : List Addr} {G : Hp} {σ : St} {H : Hp} (sat : Sat X.K X.mg (Mon.pu m) B0 E S κ G σ H) {W : WX} (tk : Takes X W) {D : Ends}
    (hw : ∀ R : It → Hp → Prop, Post X.K X.mg (Mon.pu m) (ItR X.K X.mg) κ G H S (Mon.run ri S) R (fun c d H' => W c d σ H') → WI X tg iter σ H R)
    (q : PostS X.K X.mg (Mon.pu m) B0 (Mon.run (ri >>= fun xs => forM' step xs st0) S) (encL enc0 tv) D W) : WS X (.For tg iter body [] pos) D σ H := by
  refine ws_of (ps_for c.po c.calm pi_self pg_self pss_self (hfs _)) ?_
  refine hw _ (bindS sat q fun items J κ1 G1 H1 S1 sat1 r1 h1 ex => ?_)
  have pf := sat1.1.pf
  have lf := sat1.1.lf
  have sat2 : Sat X.K X.mg (Mon.pu m) (B0.fl κ1 G1) (enc0 st0) S1 κ1 G1 σ H1 := (hE ▸ sat1.unset is).fl (Pre.refl _) (Le.refl _)
  refine ⟨fun i n σ' H' => i ≤ items.length ∧ n = items.length - i ∧ ∃ st S' κ' G', Sat X.K X.mg (Mon.pu m) (B0.fl κ1 G1) (enc0 st) S' κ' G' σ' H' ∧ PostS X.K X.mg (Mon.pu m) B0 (Mon.run (forM' step (items.drop i) st) S') (encL enc0 tv) D W,
    ⟨_, Nat.zero_le _, rfl, st0, S1, κ1, G1, sat2, h1⟩, ?_⟩
  rintro i n σ' H' ⟨hi, hn, st, S', κ', G', sat', hp⟩
  have lg : Le G1 G' := sat'.1.lf
  have pk : Pre κ1 κ' := sat'.1.pf
  by_cases hlt : i < items.length
  · right
    obtain ⟨Nx, hNx⟩ : ∃ Nx : St → Hp → Prop, Nx = fun σ2 H2 => ∃ st S' κ' G', Sat X.K X.mg (Mon.pu m) (B0.fl κ1 G1) (enc0 st) S' κ' G' σ2 H2 ∧ PostS X.K X.mg (Mon.pu m) B0 (Mon.run (forM' step (items.drop (i + 1)) st) S') (encL enc0 tv) D W := ⟨_, rfl⟩
    refine ⟨r1.go i H' (lg.trans sat'.w.le) hlt, Nx, fun σ2 H2 h2 => ⟨items.length - (i + 1), by omega, by omega, rfl, by rw [hNx] at h2; exact h2⟩, fun x Hy hy => ?_⟩
    have hit : items[i]? = some items[i] := List.getElem?_eq_getElem hlt
    rw [List.drop_eq_getElem_cons hlt, forM'_run_cons] at hp
    have turn : ∀ κ2 G2 Hz v, Sat X.K X.mg (Mon.pu m) (B0.fl κ1 G1) (enc0 st) S' κ2 G2 σ' Hz → Rep X.K X.mg κ2 G2 items[i] v → WG X tg v σ' Hz fun σ2 H2 => WSs X body { D with nx := Nx, ct := Nx, bk := D.nx } σ2 H2 := fun κ2 G2 Hz v satz rz =>
      hb st items[i] (B0.fl κ1 G1) S' κ2 G2 σ' Hz satz v rz W tk _ (turn_post pf lf hp fun st S' κ' G' σ' H' sa po => (by rw [hNx]; exact ⟨st, S', κ', G', sa, po⟩))
    rcases r1.yld i H' x Hy (lg.trans sat'.w.le) hy items[i] hit with ⟨e1, rx⟩ | ⟨T, vs, ys, hT, e1, e2, e3, ry⟩
    · subst e1
      exact turn κ' G' Hy x sat' (rx.mono pk lg)
    · subst e1 e2
      have ex2 : ExtB X.K X.mg (Mon.pu m) κ' G' H' S' κ' (L2.upd G' T (.tup vs)) (L2.upd H' T (.tup vs)) S' := ⟨(sat'.w.upd hT).e, fun _ => (sat'.w.upd hT).p rfl⟩
      refine turn κ' _ _ _ (sat'.ext ex2) ?_
      rw [e3]
      unfold Rep
      exact ⟨T, vs, rfl, .inl (.inl upd_same), (ry.mono pk lg).mono (Pre.refl _) ex2.e.le⟩
  · have e : i = items.length := by omega
    subst e
    left
    rw [List.drop_length, forM'_run_nil] at hp
    exact ⟨r1.stop H' (lg.trans sat'.w.le), (show PostO X.K X.mg (Mon.pu m) B0 S' D (.nx (enc0 st)) from hp) κ' G' σ' H' (sat'.unfl pf lf)⟩

theorem st_for (c : Ctx X N sc k) {τ : Type} {tg iter : Expr} {body : List Stmt} {pos : Pos} {ri : m (List Val)} {step : ρ → Val → m (Fl ρ τ)} (enc0 : ρ → Env) (tv : τ → Val) (is : List Nat) (st0 : ρ) (hE : unset E is = enc0 st0)
    (hw : Wi X E tg iter ri) (hb : ∀ st x, Tb X (enc0 st) tg x body (step st x) (encL enc0 tv)) (hfs : ∀ env x, foldedSetIterable iter env x = pure x := by intros; rfl) :
    St1 X E (.For tg iter body [] pos) (ri >>= fun xs => forM' step xs st0) (encL enc0 tv) := fun B0 S κ G σ H sat W tk D q =>
  for_core c enc0 tv is st0 hE hb hfs sat tk (fun R p => hw B0 S κ G σ H sat.weak W tk R p) q

/-! ### while -/
theorem st_while (c : Ctx X N sc k) {τ : Type} {test : Expr} {body : List Stmt} {pos : Pos} {tst : ρ → m Bool} {step : ρ → m (Fl ρ τ)} (enc0 : ρ → Env) (tv : τ → Val) (is : List Nat) (st0 : ρ) (n0 : Nat) (hE : unset E is = enc0 st0)
    (ht : ∀ st, Et X (enc0 st) test (tst st)) (hb : ∀ st, Sx X (enc0 st) body [] (step st) (encL enc0 tv)) :
    St1 X E (.While test body [] pos) (whileM' tst step n0 st0) (encL enc0 tv) := by
  intro B0 S κ G σ H sat W tk D q
  refine ws_of (ps_while c.po pt_self pss_self) ?_
  have sat2 : Sat X.K X.mg (Mon.pu m) B0 (enc0 st0) S κ G σ H := hE ▸ sat.unset is
  refine ⟨fun n σ' H' => ∃ st S' κ' G', Sat X.K X.mg (Mon.pu m) B0 (enc0 st) S' κ' G' σ' H' ∧ PostS X.K X.mg (Mon.pu m) B0 (Mon.run (whileM' tst step n st) S') (encL enc0 tv) D W, ⟨n0, st0, S, κ, G, sat2, q⟩, ?_⟩
  rintro n σ' H' ⟨st, S', κ', G', sat', hp⟩
  cases n with
  | zero =>
    unfold whileM' at hp
    rw [Mon.run_of] at hp
    exact hp.elim
  | succ n =>
    unfold whileM' at hp
    refine ht st B0 S' κ' G' σ' H' sat'.weak W tk _ (bindS sat' hp fun x v κ1 G1 H1 S1 sat1 e1 h3 ex => ?_)
    subst e1
    cases x with
    | false =>
      rw [if_neg Bool.false_ne_true] at h3 ⊢
      exact (show PostO X.K X.mg (Mon.pu m) B0 S1 D (.nx (enc0 st)) from postPure h3) κ1 G1 σ' H1 sat1
    | true =>
      rw [if_pos rfl] at h3 ⊢
      refine ⟨fun σ2 H2 => ∃ st S' κ' G', Sat X.K X.mg (Mon.pu m) B0 (enc0 st) S' κ' G' σ2 H2 ∧ PostS X.K X.mg (Mon.pu m) B0 (Mon.run (whileM' tst step n st) S') (encL enc0 tv) D W, fun σ2 H2 h2 => ⟨n, Nat.lt_succ_self n, h2⟩, ?_⟩
      refine hb st B0 S1 κ1 G1 σ' H1 sat1 W tk _ ?_
      have h4 : PostS X.K X.mg (Mon.pu m) B0 (M.bind (Mon.run (step st)) (fun fl => match fl with | .nx st' => Mon.run (whileM' tst step n st') | .ct st' => Mon.run (whileM' tst step n st') | .bk st' => Pure.pure (.nx st') | .rt t => Pure.pure (.rt t)) S1) (encL enc0 tv) D W := by
        rw [Mon.run_bind] at h3
        have e : ∀ S, (M.bind (Mon.run (step st)) (fun fl => match fl with | .nx st' => Mon.run (whileM' tst step n st') | .ct st' => Mon.run (whileM' tst step n st') | .bk st' => Pure.pure (.nx st') | .rt t => Pure.pure (.rt t)) S) = (Mon.run (step st) >>= fun a => Mon.run (match a with | .nx st' => whileM' tst step n st' | .ct st' => whileM' tst step n st' | .bk st' => Pure.pure (.nx st') | .rt t => Pure.pure (.rt t) : m (Fl ρ τ))) S := by
          intro S
          show M.bind _ _ S = M.bind _ _ S
          congr 1
          funext fl
          cases fl <;> first | rfl | exact (Mon.run_pure _).symm
        rw [e]
        exact h3
      unfold M.bind at h4
      cases e : Mon.run (step st) S1 with
      | mk r S2 =>
        rw [e] at h4
        cases r with
        | stuck => exact h4
        | exn c fs => exact h4
        | ok fl =>
          cases fl with
          | nx st => exact fun κ G σ H sat => ⟨st, S2, κ, G, sat, h4⟩
          | ct st => exact fun κ G σ H sat => ⟨st, S2, κ, G, sat, h4⟩
          | bk st => exact fun κ G σ H sat => (show PostO X.K X.mg (Mon.pu m) B0 S2 D (.nx (enc0 st)) from h4) κ G σ H sat
          | rt t => exact h4
end
end Tv

namespace Tv
open PySem L2

section
variable {m : Type → Type} [Mon m]
/-- a comprehension: what each turn gives, if anything -/
def lcM (step : Val → m (Option Val)) : List Val → m (List Val)
  | [] => Pure.pure []
  | x :: xs => step x >>= fun o => lcM step xs >>= fun ys => Pure.pure (o.toList ++ ys)
def mapM' (f : Val → m Val) : List Val → m (List Val)
  | [] => Pure.pure []
  | x :: xs => f x >>= fun y => mapM' f xs >>= fun ys => Pure.pure (y :: ys)
end
theorem M.bind_assoc {α β γ : Type} (x : M α) (f : α → M β) (g : β → M γ) : M.bind (M.bind x f) g = M.bind x fun a => M.bind (f a) g := by
  funext S
  unfold M.bind
  cases x S with
  | mk r S1 => cases r <;> rfl
theorem M.pure_bind {α β : Type} (a : α) (f : α → M β) : M.bind (Pure.pure a) f = f a := rfl
theorem noExn_bind {α β : Type} (x : M α) (f : α → M β) : noExn (M.bind x f) = M.bind (noExn x) fun a => noExn (f a) := by
  funext S
  unfold noExn M.bind
  cases e : x S with
  | mk r S1 => cases r <;> simp only [e]
theorem noExn_pure {α : Type} (a : α) : noExn (Pure.pure a) = Pure.pure a := rfl
section
variable {m : Type → Type} [Mon m]
theorem run_mapM' {f : Val → m Val} : ∀ xs, Mon.run (mapM' f xs) = Mon.run (lcM (fun x => f x >>= fun y => Pure.pure (some y)) xs)
  | [] => rfl
  | x :: xs => by
    unfold mapM' lcM
    simp only [Mon.run_bind, Mon.run_pure]
    rw [run_mapM' xs]
    show M.bind _ _ = M.bind (M.bind _ _) _
    rw [M.bind_assoc]
    rfl
end
def PTsW (X : Cx) (ifs : List Expr) : TT := fun σ H Q => ∀ t, PTs X ifs t → t σ H Q

section
variable {X : Cx} {N : List Str} {sc : Scope} {k : Nat} {E : Env} {m : Type → Type} [Mon m]
/-- a block's context -/
abbrev bX (X : Cx) (scope : Scope) (s : Shared) (H : Hp) (C : Addr) (cl : List (Str × Addr)) (fp : List Addr) : Cx := X.blk s H scope (compEnvC scope cl C X.env) fp
theorem Ctx.blk (c : Ctx X N sc k) (scope : Scope) (s : Shared) (H : Hp) (C : Addr) (cl : List (Str × Addr)) (fp : List Addr) : Ctx (bX X scope s H C cl fp) N (relS scope sc) k :=
  ⟨c.n, by show relS scope X.env.scope = _; rw [c.sc], c.calm, c.nd, c.gd, c.room, PassesOwn.never⟩
/-- a name of the block's own -/
def locBl (N : List Str) (sc scope : Scope) (i : Nat) (x : Str) : Bool := decide (N[i]? = some x) && (decide ((relS scope sc).names.lookup x = some .local) || (decide (scope.names.lookup x = some .cell) && decide ((relS scope sc).names.lookup x = some .cell)))
structure Lb (N : List Str) (sc scope : Scope) (i : Nat) (x : Str) : Prop where
  h : locBl N sc scope i x = true
theorem Ctx.pgb (c : Ctx X N sc k) {scope : Scope} {s : Shared} {H : Hp} {C : Addr} {cl : List (Str × Addr)} {fp : List Addr} {i : Nat} {x : Str} {pos : Pos} (hl : Lb N sc scope i x) : PG (bX X scope s H C cl fp) (.Name x pos) (gName i) := by
  have b := c.blk scope s H C cl fp
  have h := hl.h
  unfold locBl at h
  simp only [Bool.and_eq_true, Bool.or_eq_true, decide_eq_true_eq] at h
  obtain ⟨h1, h2⟩ := h
  rcases h2 with h2 | ⟨h2, h3⟩
  · exact pg_name (by rw [b.n]; exact b.nd) (by rw [b.n]; exact h1) (by rw [b.sc]; exact .inl h2) (.inr (by rw [b.sc]; exact h2))
  · refine pg_name (by rw [b.n]; exact b.nd) (by rw [b.n]; exact h1) (by rw [b.sc]; exact .inr h3) (.inl ?_)
    show (scope.names.lookup x == some .cell) = true
    rw [h2]; rfl
/-- an element, a test, for every block -/
def EvB (X : Cx) (scope : Scope) (E : Env) (e : Expr) (r : m Val) : Prop := ∀ s H C cl fp, Ev (bX X scope s H C cl fp) E e r
def EtB (X : Cx) (scope : Scope) (E : Env) (e : Expr) (r : m Bool) : Prop := ∀ s H C cl fp, Et (bX X scope s H C cl fp) E e r
/-- the target of a comprehension, its slots vs -/
structure TgB (X : Cx) (scope : Scope) (vs : List Nat) (tg : Expr) (f : Val → Env → Option Env) : Type where
  g : TG
  pg : ∀ s H C cl fp, PG (bX X scope s H C cl fp) tg g
  set : ∀ (b : Bool) (B0 : Bs) (E : Env) (S : Cells) κ G σ H x v E', Sat X.K X.mg b B0 E S κ G σ H → Rep X.K X.mg κ G x v → f x E = some E' → ∀ Q : St → Hp → Prop,
    (∀ σ2, Sat X.K X.mg b B0 E' S κ G σ2 H → L2.wipe σ2 vs = L2.wipe σ vs → Q σ2 H) → g v σ H Q
theorem wipe_set {σ : St} {i : Nat} {ov : Option V} : ∀ {vs : List Nat}, i ∈ vs → L2.wipe (σ.set i ov) vs = L2.wipe σ vs
  | [], h => nomatch h
  | v :: vs, h => by
    unfold L2.wipe
    by_cases e : i ∈ vs
    · rw [wipe_set e]
    · have e1 : i = v := by
        rcases List.mem_cons.mp h with z | z
        · exact z
        · exact absurd z e
      subst e1
      have go : ∀ vs : List Nat, i ∉ vs → L2.wipe (σ.set i ov) vs = (L2.wipe σ vs).set i ov := by
        intro vs
        induction vs with
        | nil => intro _; rfl
        | cons w ws ih =>
          intro hn
          unfold L2.wipe
          rw [ih (fun z => hn (List.mem_cons_of_mem _ z)), List.set_comm _ _ (fun z => hn (by rw [z]; exact List.mem_cons_self))]
      rw [go vs e, List.set_set]
def fName (i : Nat) : Val → Env → Option Env := fun x E => if i < E.length then some (E.set i (.fz x)) else none
def fTup2 (i j : Nat) : Val → Env → Option Env := fun x E => match x with
  | .tup [a, b] => if i < E.length ∧ j < E.length then some ((E.set i (.fz a)).set j (.fz b)) else none
  | _ => none
def tgName (c : Ctx X N sc k) {scope : Scope} {vs : List Nat} (i : Nat) {x : Str} {pos : Pos} (hl : Lb N sc scope i x) (hv : i ∈ vs) : TgB X scope vs (.Name x pos) (fName i) where
  g := gName i
  pg := fun s H C cl fp => c.pgb hl
  set := fun b B0 E S κ G σ H x v E' sat r e Q q => by
    unfold fName at e
    split at e
    · cases e
      exact q _ (sat.setFz (by assumption) r) (wipe_set hv)
    · cases e
def tgTup2 (c : Ctx X N sc k) {scope : Scope} {vs : List Nat} (i j : Nat) {x y : Str} {p1 p2 pos : Pos} {kk} (hx : Lb N sc scope i x) (hy : Lb N sc scope j y) (hi : i ∈ vs) (hj : j ∈ vs) : TgB X scope vs (.Tuple [.Name x p1, .Name y p2] kk pos) (fTup2 i j) where
  g := gTup X.K 2 (gCons (gName i) (gCons (gName j) gNil))
  pg := fun s H C cl fp => pg_tup (n := 2) (c.blk scope s H C cl fp).calm (pgs_cons (c.pgb hx) (pgs_cons (c.pgb hy) pgs_nil))
  set := fun b B0 E S κ G σ H x v E' sat r e Q q => by
    unfold fTup2 at e
    split at e
    · split at e
      · cases e
        unfold Rep at r
        obtain ⟨ad, ws, e1, hq, rl⟩ := r
        subst e1
        unfold RepL at rl
        obtain ⟨va, r1, e2, ra, rl⟩ := rl
        unfold RepL at rl
        obtain ⟨vb, r2, e3, rb, rl⟩ := rl
        unfold RepL at rl
        subst e2 e3 rl
        rename_i hh
        refine ⟨ad, _, rfl, sat.w.le.sqT hq, rfl, va, _, rfl, vb, _, rfl, rfl, ?_⟩
        exact q _ ((sat.setFz hh.1 ra).setFz (by simpa using hh.2) rb) (by rw [wipe_set hj, wipe_set hi])
      · cases e
    · cases e
theorem Sat.head1 {K : PySem.W.Frag} {mg : Str → Option Value} {b : Bool} {B0 : Bs} {κ : List Addr} {G H : Hp} {S : Cells} {σ : St} {xs : List Val} {D : Addr} (h : Sat K mg b B0 (.o1 xs :: E) S κ G (some (.ref D) :: σ) H) :
    ∃ vs, H D = some (.lst vs) ∧ RepL K mg κ G xs vs ∧ G D = none ∧ D ∉ κ ∧ B0.H D = none := by
  obtain ⟨x, L, ⟨ov, r, L1, Lr, e1, e2, h1, h2⟩, nd, q⟩ := h
  cases e1
  obtain ⟨a, vs, z1, z2, z3, z4⟩ := h1
  cases z2
  subst z1 e2
  obtain ⟨q1, q2, q3, q4⟩ := q D (by simp)
  exact ⟨vs, z3, z4, q2, q3, q1⟩
/-- a frozen end of an owned list at the head of the slots -/
theorem vLst_len {K : PySem.W.Frag} {mg : Str → Option Value} {p : Bool} {κ : List Addr} {G H : Hp} {S S1 : Cells} {r : M (List Val)} {acc : List Val} {Q : VK} {W : Value → Option Addr → Hp → Prop}
    (h : Post K mg p (Rep K mg) κ G H S (M.bind (noExn r) (fun ys => lift (vLst (acc ++ ys))) S1) Q W) : acc.length ≤ sizeLine := by
  unfold M.bind noExn at h
  cases e : r S1 with
  | mk q S2 =>
    rw [e] at h
    cases q with
    | stuck => exact h.elim
    | exn c fs => exact h.elim
    | ok ys =>
      have h : Post K mg p (Rep K mg) κ G H S (vLst (acc ++ ys), S2) Q W := h
      unfold vLst at h
      split at h
      · rename_i hl
        rw [List.length_append] at hl
        omega
      · exact h.elim
/-- a comprehension: its value, and the statement that stores it in a local name -/
def EvLc (X : Cx) (E : Env) (e : Expr) (r : m Val) : Prop := Ev X E e r ∧
  ∀ (i : Nat) (y : Str) (py spos : Pos), X.N[i]? = some y → X.env.scope.names.lookup y = some .local → swapsWith e (some (.Name y py)) spos.line X.env = pure true →
    ∀ B0 S κ G σ H, Sat X.K X.mg false B0 E S κ G σ H → ∀ W : WX, Takes X W → ∀ D : Ends, Post X.K X.mg (Mon.pu m) (Rep X.K X.mg) κ G H S (Mon.run r S) (fun v H' => D.nx (σ.set i (some v)) H') (fun c d H' => W c d σ H') → WS X (.Assign [.Name y py] e spos) D σ H
theorem EvLc.cast {e : Expr} {r r' : m Val} (h : EvLc X E e r) (q : Mon.run r' = Mon.run r) : EvLc X E e r' :=
  ⟨fun B0 S κ G σ H sat W tk Q p => h.1 B0 S κ G σ H sat W tk Q (by rw [← q]; exact p), fun i y py spos h1 h2 h3 B0 S κ G σ H sat W tk D p => h.2 i y py spos h1 h2 h3 B0 S κ G σ H sat W tk D (by rw [← q]; exact p)⟩
/-- THE CORE: a comprehension whose turns are told -/
theorem lc_go (c : Ctx X N sc k) {scope : Scope} {own : List (Str × Nat)} {elt tg iter : Expr} {ifs : List Expr} {pos : Pos} {ri : m (List Val)} {f : Val → Env → Option Env} {step : Val → m (Option Val)} {tt : TT} {te : TE} (T : TgB X scope (own.map (·.2)) tg f) (ok : BlkOk N sc scope own) (hw : Wi X E tg iter ri)
    (ht : ∀ s H C cl fp, PTs (bX X scope s H C cl fp) ifs tt) (he : ∀ s H C cl fp, PE (bX X scope s H C cl fp) elt te)
    (hs : ∀ x E', f x (unset E (own.map (·.2))) = some E' → ∀ (B0 : Bs) S κ G σ H, Sat X.K X.mg false B0 E' S κ G σ H → ∀ Q : Option V → Hp → Prop,
      Post X.K X.mg (Mon.pu m) (fun κ G o ov => (o = none ∧ ov = none) ∨ ∃ y v, o = some y ∧ ov = some v ∧ Rep X.K X.mg κ G y v) κ G H S (Mon.run (step x) S) Q (fun _ _ _ => False) →
      tt σ H fun b H3 => if b = true then te σ H3 (fun u H4 => Q (some u) H4) else Q none H3)
    (hn : ∀ x, f x (unset E (own.map (·.2))) = none → ∀ S, ∃ S', Mon.run (step x) S = (.stuck, S'))
    (hfs : ∀ env x, foldedSetIterable iter env x = pure x := by intros; rfl) :
    EvLc X E (.ListComp elt [⟨tg, iter, ifs, 0⟩] scope pos) (ri >>= fun xs => Mon.nx (lcM step xs) >>= fun ys => Mon.of (vLst ys)) := by
  suffices core : ∀ B0 S κ G σ H, Sat X.K X.mg false B0 E S κ G σ H → ∀ W : WX, Takes X W → ∀ Q : VK, Post X.K X.mg (Mon.pu m) (Rep X.K X.mg) κ G H S (Mon.run (m := m) (ri >>= fun xs => Mon.nx (lcM step xs) >>= fun ys => Mon.of (vLst ys)) S) Q (fun c d H' => W c d σ H') → tLc (WI X tg iter) T.g tt te (own.map (·.2)) σ H Q from
    ⟨fun B0 S κ G σ H sat W tk Q q => we_of (pe_lc (own := own) c.calm (by rw [c.n]; exact c.nd) pi_self (by rw [c.n, c.sc]; exact ok) T.pg ht he (hfs _)) (core B0 S κ G σ H sat W tk Q q),
      fun i y py spos h1 h2 h3 B0 S κ G σ H sat W tk D q => ws_of (ps_setLc (own := own) c.calm (by rw [c.n]; exact c.nd) h1 h2 h3 pi_self (by rw [c.n, c.sc]; exact ok) T.pg ht he (hfs _)) (core B0 S κ G σ H sat W tk _ q)⟩
  intro B0 S κ G σ H sat W tk Q q
  refine hw B0 S κ G σ H sat W tk _ (bindW q fun items J κ1 G1 H1 S1 e1 r1 h1 => ?_)
  intro D hD
  have sat1 := sat.ext e1.weak
  obtain ⟨Bk, hBk⟩ : ∃ Bk : Bs, Bk = ⟨κ1, G1, H1, S1, κ1, G1⟩ := ⟨_, rfl⟩
  have x0 : ExtS X.K X.mg (Mon.pu m) Bk κ1 G1 H1 S1 := by subst hBk; exact ⟨ExtB.refl e1.e.w, Pre.refl _, Le.refl _⟩
  have hBD : Bk.H D = none := by subst hBk; exact hD
  have satP := sat1.push hD
  obtain ⟨vs0, _, _, gD, kD, _⟩ := satP.head1
  have h2 : Post X.K X.mg (Mon.pu m) (Rep X.K X.mg) κ1 G1 H1 S1 (M.bind (noExn (Mon.run (lcM step items))) (fun ys => lift (vLst ([] ++ ys))) S1) Q (fun c d H' => W c d σ H') := by
    rw [Mon.run_bind, Mon.run_nx] at h1
    have e : (fun ys => Mon.run (m := m) (Mon.of (vLst ys))) = fun ys => lift (vLst ys) := by funext ys; exact Mon.run_of _
    rw [e] at h1
    exact h1
  refine ⟨fun i n H' => i ≤ items.length ∧ n = items.length - i ∧ ∃ acc S' κ' G', Sat X.K X.mg false B0 (.o1 acc :: E) S' κ' G' (some (.ref D) :: σ) H' ∧ ExtS X.K X.mg (Mon.pu m) Bk κ' G' H' S' ∧
      Post X.K X.mg (Mon.pu m) (Rep X.K X.mg) κ1 G1 H1 S1 (M.bind (noExn (Mon.run (lcM step (items.drop i)))) (fun ys => lift (vLst (acc ++ ys))) S') Q (fun c d H' => W c d σ H'),
    ⟨_, Nat.zero_le _, rfl, [], S1, κ1, G1, satP, x0.own hBD gD kD, h2⟩, ?_⟩
  rintro i n H' ⟨hi, hnn, acc, S', κ', G', sa, xs', hp⟩
  have pk : Pre κ1 κ' := by have := xs'.pf; subst hBk; exact this
  have lg : Le G1 G' := by have := xs'.lf; subst hBk; exact this
  by_cases hlt : i < items.length
  · right
    obtain ⟨Nx, hNx⟩ : ∃ Nx : Hp → Prop, Nx = fun H' => ∃ acc S' κ' G', Sat X.K X.mg false B0 (.o1 acc :: E) S' κ' G' (some (.ref D) :: σ) H' ∧ ExtS X.K X.mg (Mon.pu m) Bk κ' G' H' S' ∧
      Post X.K X.mg (Mon.pu m) (Rep X.K X.mg) κ1 G1 H1 S1 (M.bind (noExn (Mon.run (lcM step (items.drop (i + 1))))) (fun ys => lift (vLst (acc ++ ys))) S') Q (fun c d H' => W c d σ H') := ⟨_, rfl⟩
    refine ⟨r1.go i H' (lg.trans sa.w.le) hlt, Nx, fun H2 h2 => ⟨items.length - (i + 1), by omega, by omega, rfl, by rw [hNx] at h2; exact h2⟩, fun x Hy hy => ?_⟩
    have hit : items[i]? = some items[i] := List.getElem?_eq_getElem hlt
    rw [List.drop_eq_getElem_cons hlt] at hp
    have hp2 : Post X.K X.mg (Mon.pu m) (Rep X.K X.mg) κ1 G1 H1 S1 (M.bind (noExn (Mon.run (step items[i]))) (fun o => M.bind (noExn (Mon.run (lcM step (items.drop (i + 1))))) (fun ys => lift (vLst ((acc ++ o.toList) ++ ys)))) S') Q (fun c d H' => W c d σ H') := by
      have e : ∀ (r1 : M (Option Val)) (r2 : M (List Val)), M.bind (noExn (M.bind r1 fun o => M.bind r2 fun ys => Pure.pure (o.toList ++ ys))) (fun ys => lift (vLst (acc ++ ys))) = M.bind (noExn r1) (fun o => M.bind (noExn r2) fun ys => lift (vLst ((acc ++ o.toList) ++ ys))) := by
        intro r1 r2
        rw [noExn_bind, M.bind_assoc]
        congr 1
        funext o
        rw [noExn_bind, M.bind_assoc]
        congr 1
        funext ys
        rw [List.append_assoc]
        rfl
      rw [← e]
      unfold lcM at hp
      rw [Mon.run_bind] at hp
      have e2 : (fun a => Mon.run (m := m) (lcM step (items.drop (i + 1)) >>= fun ys => Pure.pure (a.toList ++ ys))) = fun (a : Option Val) => M.bind (Mon.run (lcM step (items.drop (i + 1)))) fun ys => Pure.pure (a.toList ++ ys) := by
        funext a
        rw [Mon.run_bind]
        show M.bind _ _ = M.bind _ _
        congr 1
        funext ys
        exact Mon.run_pure _
      rw [e2] at hp
      exact hp
    -- one turn, from the state behind the draw
    have turn : ∀ κ2 G2 Hz v, Sat X.K X.mg false B0 (.o1 acc :: E) S' κ2 G2 (some (.ref D) :: σ) Hz → ExtS X.K X.mg (Mon.pu m) Bk κ2 G2 Hz S' → Rep X.K X.mg κ2 G2 items[i] v →
        T.g v (L2.wipe σ (own.map (·.2))) Hz fun σ2 H2 => L2.wipe σ2 (own.map (·.2)) = L2.wipe σ (own.map (·.2)) ∧ tt σ2 H2 fun b H3 => if b = true then te σ2 H3 fun y H4 => ∃ acc, H4 D = some (.lst acc) ∧ acc.length < sizeLine ∧ Nx (L2.upd H4 D (.lst (acc ++ [y]))) else Nx H3 := by
      intro κ2 G2 Hz v sz xz rz
      have s1 := sz.tail.wipe (own.map (·.2))
      cases ef : f items[i] (unset E (own.map (·.2))) with
      | none =>
        obtain ⟨S3, es⟩ := hn _ ef S'
        unfold M.bind noExn at hp2
        rw [es] at hp2
        exact hp2.elim
      | some E' =>
        refine T.set false B0 _ S' κ2 G2 _ Hz _ v E' s1 rz ef _ fun σ2 s2 w2 => ⟨?_, ?_⟩
        · rw [w2]
          have ww : ∀ vs : List Nat, L2.wipe (L2.wipe σ vs) vs = L2.wipe σ vs := by
            intro vs
            apply List.ext_getElem?
            intro j
            by_cases hj : j ∈ vs
            · have k1 : ∀ τ : St, j < τ.length → (L2.wipe τ vs)[j]? = some none := by
                intro τ hl
                cases e : (L2.wipe τ vs)[j]? with
                | none => rw [List.getElem?_eq_none_iff, L2.wipe_length] at e; omega
                | some o => cases o with
                  | none => rfl
                  | some y => exact absurd hj (L2.wipe_some e).2
              by_cases hl : j < σ.length
              · rw [k1 _ (by rw [L2.wipe_length]; exact hl), k1 _ hl]
              · rw [List.getElem?_eq_none (by rw [L2.wipe_length, L2.wipe_length]; omega), List.getElem?_eq_none (by rw [L2.wipe_length]; omega)]
            · rw [L2.wipe_out hj]
          exact ww _
        · have fin := hs _ E' ef B0 S' κ2 G2 σ2 Hz s2 (fun ov H4 => match ov with
            | some y => ∃ acc, H4 D = some (.lst acc) ∧ acc.length < sizeLine ∧ Nx (L2.upd H4 D (.lst (acc ++ [y])))
            | none => Nx H4) ?_
          · exact fin
          · have hp3 := hp2
            unfold M.bind noExn at hp3
            cases er : Mon.run (step items[i]) S' with
            | mk r S3 =>
              rw [er] at hp3
              cases r with
              | stuck => exact hp3.elim
              | exn c fs => exact hp3.elim
              | ok o =>
                intro κ3 G3 H3 ov e3 ro
                have hp4 : Post X.K X.mg (Mon.pu m) (Rep X.K X.mg) κ1 G1 H1 S1 (M.bind (noExn (Mon.run (lcM step (items.drop (i + 1))))) (fun ys => lift (vLst ((acc ++ o.toList) ++ ys))) S3) Q (fun c d H' => W c d σ H') := hp3
                have s4 := sz.ext e3.weak
                have x4 := xz.trans e3
                rcases ro with ⟨eo, ev⟩ | ⟨y, u, eo, ev, ry⟩
                · subst eo ev
                  show Nx H3
                  rw [hNx]
                  rw [show acc ++ Option.toList none = acc from List.append_nil _] at hp4
                  exact ⟨acc, S3, κ3, G3, s4, x4, hp4⟩
                · subst eo ev
                  obtain ⟨ws, hD4, rl4, gD4, kD4, _⟩ := s4.head1
                  have ll := vLst_len hp4
                  have lw := rl4.length
                  refine ⟨ws, hD4, ?_, ?_⟩
                  · rw [lw]
                    have : (acc ++ [y]).length ≤ sizeLine := ll
                    rw [List.length_append, List.length_singleton] at this
                    omega
                  · rw [hNx]
                    obtain ⟨a, vs, z1, z2, z3, z4⟩ := s4.setO1 (i := 0) (xs := acc) (ys := acc ++ [y]) rfl
                    cases z1
                    rw [hD4] at z2
                    cases z2
                    exact ⟨acc ++ [y], S3, κ3, G3, z4 (ws ++ [u]) (rl4.append (.cons ry .nil)), x4.own hBD gD4 kD4, hp4⟩
    rcases r1.yld i H' x Hy (lg.trans sa.w.le) hy items[i] hit with ⟨z1, rx⟩ | ⟨T', vs, ys, hT, z1, z2, z3, ry⟩
    · subst z1
      exact turn κ' G' Hy x sa xs' (rx.mono pk lg)
    · subst z1 z2
      have ex2 : ExtB X.K X.mg (Mon.pu m) κ' G' H' S' κ' (L2.upd G' T' (.tup vs)) (L2.upd H' T' (.tup vs)) S' := ⟨(sa.w.upd hT).e, fun _ => (sa.w.upd hT).p rfl⟩
      refine turn κ' _ _ _ (sa.ext ex2.weak) (xs'.trans ex2) ?_
      rw [z3]
      unfold Rep
      exact ⟨T', vs, rfl, .inl (.inl upd_same), (ry.mono pk lg).mono (Pre.refl _) ex2.e.le⟩
  · have e : i = items.length := by omega
    subst e
    left
    refine ⟨r1.stop H' (lg.trans sa.w.le), ?_⟩
    rw [List.drop_length] at hp
    unfold lcM at hp
    rw [Mon.run_pure] at hp
    have hp2 : Post X.K X.mg (Mon.pu m) (Rep X.K X.mg) κ1 G1 H1 S1 (vLst (acc ++ []), S') Q (fun c d H' => W c d σ H') := hp
    rw [List.append_nil] at hp2
    unfold vLst at hp2
    split at hp2
    · obtain ⟨ws, hD4, rl4, gD4, kD4, _⟩ := sa.head1
      obtain ⟨xf, lf⟩ := xs'.freeze hBD gD4 kD4 hD4
      refine hp2 κ' (L2.upd G' D (.lst ws)) H' (.ref D) ?_ ?_
      · have := xf.x; subst hBk; exact this
      · unfold Rep
        exact ⟨D, ws, rfl, upd_same, rl4.mono (Pre.refl _) lf⟩
    · exact hp2.elim
end
end Tv

namespace Tv
open PySem L2
section
variable {X : Cx} {N : List Str} {sc : Scope} {k : Nat} {E : Env} {m : Type → Type} [Mon m]
theorem takesF {X : Cx} : Takes X (fun _ _ _ _ => False) := fun u s' x => by
  obtain ⟨_, _, _, _, _, _, _, _, _, _, _, _, _, _, _, _, z⟩ := x
  exact z.elim
def TEs (X : Cx) (scope : Scope) (e : Expr) : TE := fun σ H Q => ∀ s Hh C cl fp, WE (bX X scope s Hh C cl fp) e σ H Q
def TTs (X : Cx) (scope : Scope) (e : Expr) : TT := fun σ H Q => ∀ s Hh C cl fp, WT (bX X scope s Hh C cl fp) e σ H Q
abbrev ROpt (K : PySem.W.Frag) (mg : Str → Option Value) : List Addr → Hp → Option Val → Option V → Prop := fun κ G o ov => (o = none ∧ ov = none) ∨ ∃ y v, o = some y ∧ ov = some v ∧ Rep K mg κ G y v
/-- the turn without a test -/
theorem turn0 {scope : Scope} {elt : Expr} {r : m Val} (h : EvB X scope E elt r) (B0 : Bs) (S : Cells) (κ : List Addr) (G : Hp) (σ : St) (H : Hp) (sat : Sat X.K X.mg false B0 E S κ G σ H) (Q : Option V → Hp → Prop)
    (q : Post X.K X.mg (Mon.pu m) (ROpt X.K X.mg) κ G H S (Mon.run (r >>= fun y => Pure.pure (some y)) S) Q (fun _ _ _ => False)) : tYes σ H fun b H3 => if b = true then TEs X scope elt σ H3 (fun u H4 => Q (some u) H4) else Q none H3 := by
  show (if true = true then TEs X scope elt σ H (fun u H4 => Q (some u) H4) else Q none H)
  rw [if_pos rfl]
  intro s Hh C cl fp
  refine h s Hh C cl fp B0 S κ G σ H sat _ takesF _ (bindW q fun x v κ1 G1 H1 S1 e1 r1 h1 => ?_)
  exact Post.pure (m := m) h1 e1.e.w (.inr ⟨x, v, rfl, rfl, r1⟩)
/-- the turn with a test -/
theorem turn1 {scope : Scope} {elt c : Expr} {r : m Val} {rc : m Bool} (hc : EtB X scope E c rc) (h : EvB X scope E elt r) (B0 : Bs) (S : Cells) (κ : List Addr) (G : Hp) (σ : St) (H : Hp) (sat : Sat X.K X.mg false B0 E S κ G σ H) (Q : Option V → Hp → Prop)
    (q : Post X.K X.mg (Mon.pu m) (ROpt X.K X.mg) κ G H S (Mon.run (rc >>= fun b => if b = true then r >>= fun y => Pure.pure (some y) else Pure.pure none) S) Q (fun _ _ _ => False)) : TTs X scope c σ H fun b H3 => if b = true then TEs X scope elt σ H3 (fun u H4 => Q (some u) H4) else Q none H3 := by
  intro s Hh C cl fp
  refine hc s Hh C cl fp B0 S κ G σ H sat _ takesF _ (bindW q fun b b' κ1 G1 H1 S1 e1 r1 h1 => ?_)
  subst r1
  cases b with
  | true =>
    rw [if_pos rfl] at h1 ⊢
    have t := turn0 h B0 S1 κ1 G1 σ H1 (sat.ext e1.weak) Q h1
    exact t
  | false =>
    rw [if_neg Bool.false_ne_true] at h1 ⊢
    exact Post.pure (m := m) h1 e1.e.w (.inl ⟨rfl, rfl⟩)
theorem peS {scope : Scope} {e : Expr} : ∀ s H C cl fp, PE (bX X scope s H C cl fp) e (TEs X scope e) := fun s H C cl fp => ⟨fun pins st σ Hh Q I h => (h s H C cl fp).run pins st I⟩
theorem ptS {scope : Scope} {e : Expr} : ∀ s H C cl fp, PTs (bX X scope s H C cl fp) [e] (TTs X scope e) := fun s H C cl fp => pts_one ⟨fun pins st σ Hh Q I h => (h s H C cl fp).run pins st I⟩
/-- the own slots of a comprehension are places of the frame -/
theorem unset_length {E : Env} : ∀ vs : List Nat, (unset E vs).length = E.length
  | [] => rfl
  | v :: vs => by unfold unset; rw [List.length_set, unset_length vs]
def on1 {α : Type} (x : Val) (f : Val → m α) : m α := f x

/-- [elt for x in iter] -/
theorem ev_lc (c : Ctx X N sc k) {scope : Scope} {own : List (Str × Nat)} {elt iter : Expr} {pos px : Pos} {x : Str} {i : Nat} {ri : m (List Val)} {r : Val → m Val} (hb : blkC N sc scope own = true) (hl : Lb N sc scope i x) (hv : i ∈ own.map (·.2)) (hi : i < E.length) (hw : Wi X E (.Name x px) iter ri)
    (he : ∀ v, EvB X scope ((unset E (own.map (·.2))).set i (.fz v)) elt (r v)) (hfs : ∀ env x, foldedSetIterable iter env x = pure x := by intros; rfl) :
    EvLc X E (.ListComp elt [⟨.Name x px, iter, [], 0⟩] scope pos) (ri >>= fun xs => Mon.nx (mapM' r xs) >>= fun ys => Mon.of (vLst ys)) := by
  have core := lc_go (pos := pos) (step := fun v => r v >>= fun y => Pure.pure (some y)) c (tgName c i (pos := px) hl hv) (blkOk_by hb) hw (fun _ _ _ _ _ => pts_nil) (peS (e := elt)) (fun v E' e B0 S κ G σ H sat Q q => ?_) (fun v e => ?_) hfs
  · refine core.cast ?_
    have e : Mon.run (m := m) (ri >>= fun xs => Mon.nx (mapM' r xs) >>= fun ys => Mon.of (vLst ys)) = Mon.run (ri >>= fun xs => Mon.nx (lcM (fun v => r v >>= fun y => Pure.pure (some y)) xs) >>= fun ys => Mon.of (vLst ys)) := by
      rw [Mon.run_bind, Mon.run_bind]
      show M.bind _ _ = M.bind _ _
      congr 1
      funext xs
      rw [Mon.run_bind, Mon.run_bind, Mon.run_nx, Mon.run_nx, run_mapM']
    exact e
  · unfold fName at e
    rw [if_pos (by rw [unset_length]; exact hi)] at e
    cases e
    exact turn0 (he v) B0 S κ G σ H sat Q q
  · unfold fName at e
    rw [if_pos (by rw [unset_length]; exact hi)] at e
    cases e
/-- [elt for x in iter if c] -/
theorem ev_lcif (c : Ctx X N sc k) {scope : Scope} {own : List (Str × Nat)} {elt iter cond : Expr} {pos px : Pos} {x : Str} {i : Nat} {ri : m (List Val)} {r : Val → m Val} {rc : Val → m Bool} (hb : blkC N sc scope own = true) (hl : Lb N sc scope i x) (hv : i ∈ own.map (·.2)) (hi : i < E.length) (hw : Wi X E (.Name x px) iter ri)
    (hc : ∀ v, EtB X scope ((unset E (own.map (·.2))).set i (.fz v)) cond (rc v)) (he : ∀ v, EvB X scope ((unset E (own.map (·.2))).set i (.fz v)) elt (r v)) (hfs : ∀ env x, foldedSetIterable iter env x = pure x := by intros; rfl) :
    EvLc X E (.ListComp elt [⟨.Name x px, iter, [cond], 0⟩] scope pos) (ri >>= fun xs => Mon.nx (lcM (fun v => rc v >>= fun b => if b = true then r v >>= fun y => Pure.pure (some y) else Pure.pure none) xs) >>= fun ys => Mon.of (vLst ys)) := by
  refine lc_go c (tgName c i (pos := px) hl hv) (blkOk_by hb) hw (ptS (e := cond)) (peS (e := elt)) (fun v E' e B0 S κ G σ H sat Q q => ?_) (fun v e => ?_) hfs
  · unfold fName at e
    rw [if_pos (by rw [unset_length]; exact hi)] at e
    cases e
    exact turn1 (hc v) (he v) B0 S κ G σ H sat Q q
  · unfold fName at e
    rw [if_pos (by rw [unset_length]; exact hi)] at e
    cases e
/-- [elt for x, y in iter] -/
theorem ev_lc2 (c : Ctx X N sc k) {scope : Scope} {own : List (Str × Nat)} {elt iter : Expr} {pos px py pt : Pos} {kk} {x y : Str} {i j : Nat} {ri : m (List Val)} {r : Val → Val → m Val} (hb : blkC N sc scope own = true) (hl : Lb N sc scope i x) (hl2 : Lb N sc scope j y) (hv : i ∈ own.map (·.2)) (hv2 : j ∈ own.map (·.2)) (hi : i < E.length) (hj : j < E.length)
    (hw : Wi X E (.Tuple [.Name x px, .Name y py] kk pt) iter ri) (he : ∀ a b, EvB X scope (((unset E (own.map (·.2))).set i (.fz a)).set j (.fz b)) elt (r a b)) (hfs : ∀ env x, foldedSetIterable iter env x = pure x := by intros; rfl) :
    EvLc X E (.ListComp elt [⟨.Tuple [.Name x px, .Name y py] kk pt, iter, [], 0⟩] scope pos) (ri >>= fun xs => Mon.nx (mapM' (fun v => on2 v r) xs) >>= fun ys => Mon.of (vLst ys)) := by
  have core := lc_go (pos := pos) (step := fun v => on2 v r >>= fun y => Pure.pure (some y)) c (tgTup2 c i j (p1 := px) (p2 := py) (pos := pt) (kk := kk) hl hl2 hv hv2) (blkOk_by hb) hw (fun _ _ _ _ _ => pts_nil) (peS (e := elt)) (fun v E' e B0 S κ G σ H sat Q q => ?_) (fun v e => ?_) hfs
  · refine core.cast ?_
    have e : Mon.run (m := m) (ri >>= fun xs => Mon.nx (mapM' (fun v => on2 v r) xs) >>= fun ys => Mon.of (vLst ys)) = Mon.run (ri >>= fun xs => Mon.nx (lcM (fun v => on2 v r >>= fun y => Pure.pure (some y)) xs) >>= fun ys => Mon.of (vLst ys)) := by
      rw [Mon.run_bind, Mon.run_bind]
      show M.bind _ _ = M.bind _ _
      congr 1
      funext xs
      rw [Mon.run_bind, Mon.run_bind, Mon.run_nx, Mon.run_nx, run_mapM']
    exact e
  · unfold fTup2 at e
    split at e
    · rw [if_pos ⟨by rw [unset_length]; exact hi, by rw [unset_length]; exact hj⟩] at e
      cases e
      exact turn0 (he _ _) B0 S κ G σ H sat Q q
    · cases e
  · intro S
    have st : on2 v r = Mon.of .stuck := by
      unfold on2
      unfold fTup2 at e
      split
      · have e : (if i < (unset E (own.map (·.2))).length ∧ j < (unset E (own.map (·.2))).length then some _ else none) = none := e
        rw [if_pos ⟨by rw [unset_length]; exact hi, by rw [unset_length]; exact hj⟩] at e
        cases e
      · rfl
    rw [st, Mon.run_bind, Mon.run_of]
    exact ⟨S, rfl⟩
/-- [elt for x, y in iter if c] -/
theorem ev_lc2if (c : Ctx X N sc k) {scope : Scope} {own : List (Str × Nat)} {elt iter cond : Expr} {pos px py pt : Pos} {kk} {x y : Str} {i j : Nat} {ri : m (List Val)} {r : Val → Val → m Val} {rc : Val → Val → m Bool} (hb : blkC N sc scope own = true) (hl : Lb N sc scope i x) (hl2 : Lb N sc scope j y) (hv : i ∈ own.map (·.2)) (hv2 : j ∈ own.map (·.2)) (hi : i < E.length) (hj : j < E.length)
    (hw : Wi X E (.Tuple [.Name x px, .Name y py] kk pt) iter ri) (hc : ∀ a b, EtB X scope (((unset E (own.map (·.2))).set i (.fz a)).set j (.fz b)) cond (rc a b)) (he : ∀ a b, EvB X scope (((unset E (own.map (·.2))).set i (.fz a)).set j (.fz b)) elt (r a b)) (hfs : ∀ env x, foldedSetIterable iter env x = pure x := by intros; rfl) :
    EvLc X E (.ListComp elt [⟨.Tuple [.Name x px, .Name y py] kk pt, iter, [cond], 0⟩] scope pos) (ri >>= fun xs => Mon.nx (lcM (fun v => on2 v fun a b => rc a b >>= fun t => if t = true then r a b >>= fun y => Pure.pure (some y) else Pure.pure none) xs) >>= fun ys => Mon.of (vLst ys)) := by
  refine lc_go c (tgTup2 c i j (p1 := px) (p2 := py) (pos := pt) (kk := kk) hl hl2 hv hv2) (blkOk_by hb) hw (ptS (e := cond)) (peS (e := elt)) (fun v E' e B0 S κ G σ H sat Q q => ?_) (fun v e => ?_) hfs
  · unfold fTup2 at e
    split at e
    · rw [if_pos ⟨by rw [unset_length]; exact hi, by rw [unset_length]; exact hj⟩] at e
      cases e
      exact turn1 (hc _ _) (he _ _) B0 S κ G σ H sat Q q
    · cases e
  · intro S
    unfold on2
    unfold fTup2 at e
    split
    · have e : (if i < (unset E (own.map (·.2))).length ∧ j < (unset E (own.map (·.2))).length then some _ else none) = none := e
      rw [if_pos ⟨by rw [unset_length]; exact hi, by rw [unset_length]; exact hj⟩] at e
      cases e
    · rw [Mon.run_of]
      exact ⟨S, rfl⟩
end
end Tv

/-! what loops and comprehensions walk -/
namespace Tv
open PySem PySem.Spec PyProof.Rows L2

/-- a list (false) or a tuple (true) -/
def Sq (K : PySem.W.Frag) (H : Hp) : Bool → Addr → List V → Prop
  | false, a, xs => SqL K H a xs
  | true, a, xs => SqT K H a xs
def sqIt (h : Heap) (it a : Addr) (i : Nat) : Bool → Prop
  | false => h.IsListIter it a i
  | true => h.IsTupleIter it a i
def sqAt (h : Heap) (a : Addr) (items : Array Value) : Bool → Prop
  | false => h.IsList a items
  | true => h.IsTuple a items
def sqObj (a : Addr) : Bool → Obj
  | false => { cls := .type "list_iterator", data := .fields #[.ref a, .int 0 0] }
  | true => { cls := .type "tuple_iterator", data := .fields #[.ref a, .int 0 0] }
theorem sqIt_new {h : Heap} {it a : Addr} {b : Bool} (e : h.get? it = some (sqObj a b)) : sqIt h it a 0 b := by
  cases b <;> exact ⟨_, e, rfl, rfl⟩
theorem sqIt_obj {h : Heap} {it a : Addr} {i : Nat} {b : Bool} (x : sqIt h it a i b) : ∃ o, h.get? it = some o ∧ ∀ v, o.data ≠ .cell v := by
  cases b <;> (obtain ⟨o, e, _, d⟩ := x; exact ⟨o, e, fun v z => by rw [d] at z; cases z⟩)
theorem sqIt_at {h h' : Heap} {it a : Addr} {i : Nat} {b : Bool} (x : sqIt h it a i b) (k : ∀ o, h.get? it = some o → h'.get? it = some o) : sqIt h' it a i b := by
  cases b <;> (obtain ⟨o, e, r⟩ := x; exact ⟨o, k o e, r⟩)
theorem sqBegins (a : Addr) (items : Array Value) (b : Bool) : Begins (.ref a) (sqObj a b) (fun h => sqAt h a items b) := by
  cases b
  · exact begins_list a items
  · exact begins_tuple a items
theorem sqDraws {prog : Program} {w : World} {A : Around} (hh : A.handled = none) (it a : Addr) (hne : a ≠ it) (items : Array Value) (b : Bool) :
    Draws prog w A it [it, a] items.size (fun i v => items[i]? = some v) (fun i h => sqIt h it a i b ∧ sqAt h a items b) := by
  cases b
  · exact Draws.list hh it a hne items
  · exact Draws.tuple hh it a hne items
section
variable {X : Cx} {pins : List (Addr × Obj)} {σ : L2.St} {H : Hp} {s : Shared}
theorem sq_inv (I : L2.Inv X pins σ H s) {b : Bool} {a : Addr} {xs : List V} (h : Sq X.K H b a xs) : ∃ its : List Value, Vals xs its ∧ sqAt s.heap a its.toArray b ∧ xs.length ≤ sizeLine := by
  cases b
  · obtain ⟨its, r, p, z⟩ := I.list h
    exact ⟨its, r, p.isList, z⟩
  · obtain ⟨its, r, p, z⟩ := I.tuple h
    exact ⟨its, r, p, z⟩
theorem sq_inj (I : L2.Inv X pins σ H s) {b : Bool} {a : Addr} {xs ys : List V} (h : Sq X.K H b a xs) (h' : Sq X.K H b a ys) : xs = ys := by
  cases b
  · exact I.list_inj h h'
  · exact I.tuple_inj h h'
theorem sq_lt {h : Heap} {a : Addr} {items : Array Value} {b : Bool} (x : sqAt h a items b) : a < h.objs.size := by
  cases b <;> (obtain ⟨o, e, _⟩ := x; exact Heap.lt_size e)
end
/-- the source is neither of the cells -/
theorem sq_apart {h : Heap} {a b : Addr} {items : Array Value} {k : Bool} {o : Obj} (x : sqAt h a items k) (e : h.get? b = some o) (hc : o.cls ≠ .type "list" ∧ o.cls ≠ .type "tuple") : a ≠ b := fun z => by
  subst z
  cases k
  · obtain ⟨o', e', c, _⟩ := x
    rw [e] at e'; cases e'; exact hc.1 c
  · obtain ⟨o', e', c, _⟩ := x
    rw [e] at e'; cases e'; exact hc.2 c
theorem cls_ne {n : String} (h1 : (n == "list") = false) (h2 : (n == "tuple") = false) : Value.type n ≠ .type "list" ∧ Value.type n ≠ .type "tuple" := by
  constructor <;> (intro h; injection h with h; subst h; simp at h1 h2)
theorem sqIt_cls {h : Heap} {it a : Addr} {i : Nat} {k : Bool} (x : sqIt h it a i k) : ∃ o, h.get? it = some o ∧ (o.cls ≠ .type "list" ∧ o.cls ≠ .type "tuple") ∧ o.cls ≠ .type "enumerate" ∧ o.cls ≠ .type "zip" := by
  cases k <;> (obtain ⟨o, e, c, _⟩ := x; exact ⟨o, e, by rw [c]; decide, by rw [c]; decide, by rw [c]; decide⟩)
/-! ### enumerate -/
def IteS (K : PySem.W.Frag) (b : Bool) (a : Addr) : It :=
  ⟨fun i H => ∃ (xs : List V) (x : V), Sq K H b a xs ∧ xs[i]? = some x, fun i H v H' => ∃ T x, v = .ref T ∧ H T = none ∧ H' = L2.upd H T (.tup [.int (i : Nat), x]) ∧ ∀ xs, Sq K H b a xs → xs[i]? = some x, fun i H => ∃ xs : List V, Sq K H b a xs ∧ xs.length = i⟩
theorem turn_enumS {P : Program} {w : World} {K : PySem.W.Frag} {elts : List Expr} {kk : Nat} {tpos : Pos} (b : Bool) (a e it : Addr) :
    Turn P w K (.Tuple elts kk tpos) (IteS K b a) [e, it] e (fun i h => (∃ old, IsEnum h e it ((i : Nat) : Int) old) ∧ sqIt h it a i b ∧ e ≠ it) where
  mem := by simp
  obj := fun i h st c hc => by
    obtain ⟨⟨old, he⟩, hi, _⟩ := st
    rcases (by simpa using hc : c = e ∨ c = it) with z | z
    · rw [z]; exact ⟨_, he, fun v q => nomatch q⟩
    · rw [z]; exact sqIt_obj hi
  keep := fun i h h' st k => by
    obtain ⟨⟨old, he⟩, hi, hne⟩ := st
    exact ⟨⟨old, k e (by simp) _ he⟩, sqIt_at hi fun o q => k it (by simp) o q, hne⟩
  item := by
    intro X hP hw hK hc i pins s σ H E I hf st hg
    subst hP hw hK
    obtain ⟨⟨old, he⟩, hit, hne⟩ := st
    obtain ⟨xs, x, hq, hx⟩ := hg
    obtain ⟨its, rv, p, hz⟩ := sq_inv I hq
    obtain ⟨u, hu, ru⟩ := rv.get hx
    obtain ⟨oi, hoi, ci, _⟩ := sqIt_cls hit
    have hel : e < s.heap.objs.size := Heap.lt_size he
    have hil : it < s.heap.objs.size := Heap.lt_size hoi
    have ae : a ≠ e := sq_apart p he (cls_ne (n := "enumerate") rfl rfl)
    have ai : a ≠ it := sq_apart p hoi ci
    have hlt : i < its.toArray.size := by
      rw [List.size_toArray]; exact (List.getElem?_eq_some_iff.mp hu).1
    refine wpAny_pyNext_enum_itemC (sqDraws (prog := X.prog) (w := X.w) (A := X.A.in1) (I.ok.hd hc) it a ai its.toArray b) he ⟨hit, p⟩ hlt hne (by simp [hne, Ne.symm ae]) fun y h' tk hy ho hit' hT hsz hk => ?_
    have ey : y = u := by
      have : its.toArray[i]? = some u := by simpa using hu
      rw [this] at hy
      exact (Option.some.inj hy).symm
    subst ey
    refine ⟨_, rfl, wpAny_letOwnedTupleGo_enum (s := { s with heap := h', toks := tk + 1 }) ho fun h'' he' sb => ?_⟩
    have hT2 : h''.get? s.heap.objs.size = some { cls := .type "tuple", data := .seq #[.int i tk, y] } := (sb.2 _ (Nat.ne_of_gt hel)).trans hT
    have new : ObjOk X.prog X.w (L2.upd H s.heap.objs.size (.tup [.int (i : Nat), x])) h'' s.heap.objs.size (.tup [.int (i : Nat), x]) :=
      ⟨by show 2 ≤ sizeLine; decide, [.int i tk, y], .cons ⟨_, rfl⟩ (.cons ru .nil), ⟨_, hT2, rfl, _, rfl⟩⟩
    have I1 : L2.Inv X pins σ (L2.upd H s.heap.objs.size (.tup [.int (i : Nat), x])) { s with heap := h'', toks := tk + 1 } :=
      I.turnedNew (ch := [e, it]) (fun b ob hb q => (sb.2 b (fun z => hb (by simp [z]))).trans (hk b ob (fun z => hb (by simp [z])) (fun z => hb (by simp [z])) q)) hf (Nat.le_refl _) new
    refine ⟨.ref s.heap.objs.size, _, I1, rfl, ⟨_, x, rfl, I.hok.fresh (Nat.le_refl _), rfl, fun ys hy => by rw [sq_inj I hy hq]; exact hx⟩, ⟨⟨y, ?_⟩, sqIt_at hit'.1 fun o q => (sb.2 it (Ne.symm hne)).trans q, hne⟩, fun b hb => ?_⟩
    · have e1 : ((i + 1 : Nat) : Int) = (i : Int) + 1 := by omega
      rw [e1]; exact he'
    · have hb' : b < s.heap.objs.size := by
        rcases (by simpa using hb : b = e ∨ b = it) with z | z
        · rw [z]; exact hel
        · rw [z]; exact hil
      rw [upd_ne (Nat.ne_of_lt hb')]
      exact (hf b hb).1
  done := by
    intro X hP hw hK hc i pins s σ H E I hf st hg
    subst hP hw hK
    obtain ⟨⟨old, he⟩, hit, hne⟩ := st
    obtain ⟨xs, hq, hx⟩ := hg
    obtain ⟨its, rv, p, hz⟩ := sq_inv I hq
    obtain ⟨oi, hoi, ci, _⟩ := sqIt_cls hit
    have hn : its.toArray.size = i := by rw [List.size_toArray, ← rv.length]; exact hx
    obtain ⟨f0, f1, f2, f3, f4, f5⟩ := hf it (by simp)
    exact wpAny_pyNext_enum_endD (sqDraws (prog := X.prog) (w := X.w) (A := X.A.in1) (I.ok.hd hc) it a (sq_apart p hoi ci) its.toArray b) he (by rw [hn]; exact ⟨hit, p⟩) fun h' eb => ⟨rfl, I.turned (t' := s.toks) (fun b o hb q => eb b o hb q) f0 f1 f3 f4 f5⟩
  self := fun A i s Q E st h => by
    obtain ⟨⟨_, he⟩, _⟩ := st
    exact wpAny_pyIter_enum he h
theorem meets_enumerate_new1 {v : Value} {o : Obj} {H : Heap → Prop} (B : Begins v o H) :
    Meets (Builtin.«enumerate.__new__» ⟨[.type "enumerate", v], []⟩) (fun _ R s => H s.heap ∧
      R (.ok (.ret (.ref (s.heap.push o).objs.size))) { s with heap := (s.heap.push o).push { cls := .type "enumerate", data := .fields #[.none, .bool false, .ref s.heap.objs.size, rawInt 0, .none, .none] } }) :=
  .of_wp fun prog w A R s h => by
    obtain ⟨hp, g, d, tk, os⟩ := s; obtain ⟨h1, h⟩ := h
    have hsub := sub_enumerate
    have q1 : ∀ {A' : Around} {E : Value → Shared → Prop} {Q : Value → Shared → Prop}, Q (.ref hp.objs.size) ⟨hp.push o, g, d, tk, os⟩ → wpAny (model prog w) A' (pyIter v) Q E ⟨hp, g, d, tk, os⟩ :=
      fun q => B.iter prog w _ _ ⟨hp, g, d, tk, os⟩ _ h1 q
    wp_walk using q1
    refine wpAny_stack_any fun st => wpAny_pure ?_
    split
    · rename_i c _ _ _ _ _
      cases (c == Value.type "enumerate")
      · wp_walk using q1
        exact ⟨_, rfl, h⟩
      · wp_walk using q1
        exact ⟨_, rfl, h⟩
    · wp_walk using q1
      exact ⟨_, rfl, h⟩
section
variable {prog : Program} {w : World} {A : Around} {E : Value → Shared → Prop} {s : Shared}
theorem enum_begins1 {v : Value} {o : Obj} {H : Heap → Prop} {Q : Value → Shared → Prop} (B : Begins v o H) (h1 : H s.heap)
    (h : ∀ h', IsEnum h' (s.heap.objs.size + 1) s.heap.objs.size 0 .none → h'.get? s.heap.objs.size = some o → h'.objs.size = s.heap.objs.size + 2 →
      (∀ b o, s.heap.get? b = some o → h'.get? b = some o) → Q (.ref (s.heap.objs.size + 1)) { s with heap := h' }) :
    wpAny (model prog w) A (call (.type "enumerate") [v]) Q E s := by
  refine callType_new F.called_enumerate (by decide) (F.typeCall_enumerate_1 _) (F.newCall_enumerate_1 _) (fun obj => F.args_object_init_2 obj _) F.entry_enumerate_new
    (meets_enumerate_new1 B) ⟨h1, ?_⟩
  have hz : (s.heap.push o).objs.size = s.heap.objs.size + 1 := Heap.size_push ..
  show _ ∧ _
  rw [hz]
  have he : IsEnum ((s.heap.push o).push { cls := .type "enumerate", data := .fields #[.none, .bool false, .ref s.heap.objs.size, rawInt 0, .none, .none] }) (s.heap.objs.size + 1) s.heap.objs.size 0 .none := by
    have := Heap.get?_push_size (s.heap.push o) (o := { cls := .type "enumerate", data := .fields #[.none, .bool false, .ref s.heap.objs.size, rawInt 0, .none, .none] }) rfl
    rw [hz] at this; exact this
  refine ⟨⟨_, he, rfl⟩, h _ he (Heap.get?_push_of_some _ (Heap.get?_push_size _ B.free)) (by rw [Heap.size_push, hz]) fun b o x => Heap.get?_push_of_some _ (Heap.get?_push_of_some _ x)⟩
end
def iEnumS (K : PySem.W.Frag) (ta : TA) : TI := fun σ H R => ta σ H fun vs H1 => ∃ a b xs, vs = [.ref a] ∧ Sq K H1 b a xs ∧ R (IteS K b a) H1
theorem pi_enumS {X : Cx} {e : Expr} {ta : TA} {p pos tpos : Pos} {elts : List Expr} {kk : Nat} (hg : Gl X "enumerate") (hm : X.mg "enumerate" = none) (ha : PA X [e] ta) (hs : starEach [e] X.env = [(false, eval e X.env)]) :
    PI X (.Tuple elts kk tpos) (.Call (.Name "enumerate" p) [e] [] pos) (iEnumS X.K ta) := by
  refine ⟨fun pins s σ H R I h => ?_⟩
  refine Call_ (ld_blt I hg hm boot_enumerate (PyProof.Rows.callWith_type1 (thn (ha.run pos pins s σ H _ I h) fun us s1 ⟨vs, H1, I1, r1, q1⟩ => ?_) hs rfl))
  obtain ⟨a, b, xs, ex, hq, q⟩ := q1
  subst ex
  cases r1 with
  | cons r rr =>
    cases rr
    cases r
    obtain ⟨its, rv, p', hz⟩ := sq_inv I1 hq
    refine enum_begins1 (sqBegins a its.toArray b) p' fun h' he hit hsz hk => wpAny_pyIter_enum he ?_
    have I2 : L2.Inv X pins σ H1 { s1 with heap := h' } := I1.kept (t' := s1.toks) hk
    refine ⟨s1.heap.objs.size + 1, [s1.heap.objs.size + 1, s1.heap.objs.size], _, _, H1, rfl, I2, turn_enumS b a (s1.heap.objs.size + 1) s1.heap.objs.size, ⟨⟨.none, he⟩, sqIt_new hit, Nat.succ_ne_self _⟩, fun b hb => ?_, q⟩
    have hle : s1.heap.objs.size ≤ b := by
      rcases (by simpa using hb : b = s1.heap.objs.size + 1 ∨ b = s1.heap.objs.size) with z | z
      · rw [z]; exact Nat.le_add_right _ _
      · rw [z]; exact Nat.le_refl _
    exact I1.fpOk hle (I1.hok.fresh hle)
/-! ### zip -/
def ItzS (K : PySem.W.Frag) (b1 b2 : Bool) (a1 a2 : Addr) : It :=
  ⟨fun i H => ∃ (xs ys : List V) (x y : V), Sq K H b1 a1 xs ∧ Sq K H b2 a2 ys ∧ xs[i]? = some x ∧ ys[i]? = some y,
    fun i H v H' => ∃ T x y, v = .ref T ∧ H T = none ∧ H' = L2.upd H T (.tup [x, y]) ∧ (∀ xs, Sq K H b1 a1 xs → xs[i]? = some x) ∧ ∀ ys, Sq K H b2 a2 ys → ys[i]? = some y,
    fun i H => ∃ xs ys : List V, Sq K H b1 a1 xs ∧ Sq K H b2 a2 ys ∧ i = min xs.length ys.length⟩
theorem turn_zipS {P : Program} {w : World} {K : PySem.W.Frag} {elts : List Expr} {kk : Nat} {tpos : Pos} {b1 b2 : Bool} {a b z TI TO i1 i2 : Addr} (D1 : TI ≠ z) (D2 : TO ≠ z) (D3 : TI ≠ TO) (D4 : TI ≠ i1) (D5 : TI ≠ i2) (D6 : TO ≠ i1) (D7 : TO ≠ i2) (D8 : i1 ≠ i2) (D9 : z ≠ i1) (D10 : z ≠ i2) (D11 : a ≠ TO) (D12 : b ≠ TO) :
    Turn P w K (.Tuple elts kk tpos) (ItzS K b1 b2 a b) [z, TI, TO, i1, i2] z (fun i h => IsZip h z TI TO .none ∧ IsTupOf2 h TI (.ref i1) (.ref i2) ∧ (∃ x y, IsTupOf2 h TO x y) ∧ sqIt h i1 a i b1 ∧ sqIt h i2 b i b2) where
  mem := by simp
  obj := fun i h st c hc => by
    obtain ⟨hz, hTI, ⟨x, y, hTO⟩, s1, s2⟩ := st
    rcases (by simpa using hc : c = z ∨ c = TI ∨ c = TO ∨ c = i1 ∨ c = i2) with q | q | q | q | q
    · rw [q]; exact ⟨_, hz, fun v q => nomatch q⟩
    · rw [q]; exact ⟨_, hTI, fun v q => nomatch q⟩
    · rw [q]; exact ⟨_, hTO, fun v q => nomatch q⟩
    · rw [q]; exact sqIt_obj s1
    · rw [q]; exact sqIt_obj s2
  keep := fun i h h' st k => by
    obtain ⟨hz, hTI, ⟨x, y, hTO⟩, h1, h2⟩ := st
    exact ⟨k z (by simp) _ hz, k TI (by simp) _ hTI, ⟨x, y, k TO (by simp) _ hTO⟩, sqIt_at h1 fun o q => k i1 (by simp) o q, sqIt_at h2 fun o q => k i2 (by simp) o q⟩
  item := by
    intro X hP hw hK hc i pins s σ H E I hf st hg
    subst hP hw hK
    obtain ⟨hz, hTI, ⟨x0, y0, hTO⟩, h1, h2⟩ := st
    obtain ⟨xs, ys, x, y, hqx, hqy, hx, hy⟩ := hg
    obtain ⟨its, rv, p, _⟩ := sq_inv I hqx
    obtain ⟨its2, rv2, p2, _⟩ := sq_inv I hqy
    obtain ⟨u, hu, ru⟩ := rv.get hx
    obtain ⟨u2, hu2, ru2⟩ := rv2.get hy
    obtain ⟨oi, hoi, ci, _⟩ := sqIt_cls h1
    obtain ⟨oj, hoj, cj, _⟩ := sqIt_cls h2
    have az : a ≠ z := sq_apart p hz (cls_ne (n := "zip") rfl rfl)
    have bz : b ≠ z := sq_apart p2 hz (cls_ne (n := "zip") rfl rfl)
    have a1 : a ≠ i1 := sq_apart p hoi ci
    have a2 : a ≠ i2 := sq_apart p hoj cj
    have c1 : b ≠ i1 := sq_apart p2 hoi ci
    have c2 : b ≠ i2 := sq_apart p2 hoj cj
    have Sp : ZipSep2 z TI TO i1 i2 [i1, a] [i2, b] := ⟨D1, D2, D3, D4, by simp, by simp [D9, Ne.symm az], by simp [D6, Ne.symm D11], D5, by simp, by simp [D10, Ne.symm bz], by simp [D7, Ne.symm D12], by simp [D8, Ne.symm c1], by simp [Ne.symm D8, Ne.symm a2]⟩
    have hzl : z < s.heap.objs.size := Heap.lt_size hz
    have hlt : i < its.toArray.size := by rw [List.size_toArray]; exact (List.getElem?_eq_some_iff.mp hu).1
    have hlt2 : i < its2.toArray.size := by rw [List.size_toArray]; exact (List.getElem?_eq_some_iff.mp hu2).1
    refine wpAny_pyNext_zipD2_item Sp (sqDraws (prog := X.prog) (w := X.w) (A := X.A.in1) (I.ok.hd hc) i1 a a1 its.toArray b1) (sqDraws (prog := X.prog) (w := X.w) (A := X.A.in1) (I.ok.hd hc) i2 b c2 its2.toArray b2) hz hTI hTO ⟨h1, p⟩ ⟨h2, p2⟩ hlt hlt2 fun v1 v2 h' tk e1 e2 z' TO' h1' h2' hT hsz hk => ?_
    have ey : v1 = u := by
      have : its.toArray[i]? = some u := by simpa using hu
      rw [this] at e1
      exact (Option.some.inj e1).symm
    have ey2 : v2 = u2 := by
      have : its2.toArray[i]? = some u2 := by simpa using hu2
      rw [this] at e2
      exact (Option.some.inj e2).symm
    subst ey ey2
    refine ⟨_, rfl, wpAny_letOwnedTupleGo_zip (s := { s with heap := h', toks := tk }) z' fun h'' z'' sb => ?_⟩
    have hT2 : h''.get? s.heap.objs.size = some { cls := .type "tuple", data := .seq #[v1, v2] } := (sb.2 _ (Nat.ne_of_gt hzl)).trans hT
    have new : ObjOk X.prog X.w (L2.upd H s.heap.objs.size (.tup [x, y])) h'' s.heap.objs.size (.tup [x, y]) :=
      ⟨by show 2 ≤ sizeLine; decide, [v1, v2], .cons ru (.cons ru2 .nil), ⟨_, hT2, rfl, _, rfl⟩⟩
    have I1 : L2.Inv X pins σ (L2.upd H s.heap.objs.size (.tup [x, y])) { s with heap := h'', toks := tk } :=
      I.turnedNew (ch := [z, TI, TO, i1, i2]) (fun c o hb q => (sb.2 c (fun q' => hb (by simp [q']))).trans (hk c o (fun q' => hb (by simp [q'])) (fun q' => hb (by simp [q'])) (fun q' => hb (by simp [q'])) (fun q' => hb (by simp [q'])) q)) hf (Nat.le_refl _) new
    refine ⟨.ref s.heap.objs.size, _, I1, rfl, ⟨_, x, y, rfl, I.hok.fresh (Nat.le_refl _), rfl, fun l hl => by rw [sq_inj I hl hqx]; exact hx, fun l hl => by rw [sq_inj I hl hqy]; exact hy⟩, ⟨z'', ?_, ⟨v1, v2, ?_⟩, ?_, ?_⟩, fun c hcm => ?_⟩
    · exact (sb.2 _ D1).trans (hk _ _ D1 D3 D4 D5 hTI)
    · exact (sb.2 _ D2).trans TO'
    · exact sqIt_at h1'.1 fun o q => (sb.2 _ (Ne.symm D9)).trans q
    · exact sqIt_at h2'.1 fun o q => (sb.2 _ (Ne.symm D10)).trans q
    · have hlt : c < s.heap.objs.size := by
        rcases (by simpa using hcm : c = z ∨ c = TI ∨ c = TO ∨ c = i1 ∨ c = i2) with q | q | q | q | q
        · rw [q]; exact hzl
        · rw [q]; exact Heap.lt_size hTI
        · rw [q]; exact Heap.lt_size hTO
        · rw [q]; exact Heap.lt_size hoi
        · rw [q]; exact Heap.lt_size hoj
      rw [upd_ne (Nat.ne_of_lt hlt)]
      exact (hf c hcm).1
  done := by
    intro X hP hw hK hc i pins s σ H E I hf st hg
    subst hP hw hK
    obtain ⟨hz, hTI, ⟨x0, y0, hTO⟩, h1, h2⟩ := st
    obtain ⟨xs, ys, hqx, hqy, hend⟩ := hg
    obtain ⟨its, rv, p, _⟩ := sq_inv I hqx
    obtain ⟨its2, rv2, p2, _⟩ := sq_inv I hqy
    obtain ⟨oi, hoi, ci, _⟩ := sqIt_cls h1
    obtain ⟨oj, hoj, cj, _⟩ := sqIt_cls h2
    have az : a ≠ z := sq_apart p hz (cls_ne (n := "zip") rfl rfl)
    have bz : b ≠ z := sq_apart p2 hz (cls_ne (n := "zip") rfl rfl)
    have a1 : a ≠ i1 := sq_apart p hoi ci
    have a2 : a ≠ i2 := sq_apart p hoj cj
    have c1 : b ≠ i1 := sq_apart p2 hoi ci
    have c2 : b ≠ i2 := sq_apart p2 hoj cj
    have Sp : ZipSep2 z TI TO i1 i2 [i1, a] [i2, b] := ⟨D1, D2, D3, D4, by simp, by simp [D9, Ne.symm az], by simp [D6, Ne.symm D11], D5, by simp, by simp [D10, Ne.symm bz], by simp [D7, Ne.symm D12], by simp [D8, Ne.symm c1], by simp [Ne.symm D8, Ne.symm a2]⟩
    have l1 := rv.length
    have l2 := rv2.length
    have n1 : its.toArray.size = xs.length := by rw [List.size_toArray, l1]
    have n2 : its2.toArray.size = ys.length := by rw [List.size_toArray, l2]
    exact wpAny_pyNext_zipD2_end Sp (sqDraws (prog := X.prog) (w := X.w) (A := X.A.in1) (I.ok.hd hc) i1 a a1 its.toArray b1) (sqDraws (prog := X.prog) (w := X.w) (A := X.A.in1) (I.ok.hd hc) i2 b c2 its2.toArray b2) hz hTI hTO (i := i) ⟨h1, p⟩ ⟨h2, p2⟩ (by omega) (by omega) (by omega) fun h' tk hk => ⟨rfl, I.turnedL (t' := tk) (ch := [z, TI, TO, i1, i2]) (fun c o hb q =>
      hk c o (fun q' => hb (by simp [q'])) (fun q' => hb (by simp [q'])) (fun q' => hb (by simp [q'])) (fun q' => hb (by simp [q'])) q) hf⟩
  self := fun A i s Q E st h => wpAny_pyIter_zip st.1 h
def iZipS (K : PySem.W.Frag) (ta : TA) : TI := fun σ H R => ta σ H fun vs H1 => ∃ a b b1 b2 xs ys, vs = [.ref a, .ref b] ∧ Sq K H1 b1 a xs ∧ Sq K H1 b2 b ys ∧ R (ItzS K b1 b2 a b) H1
theorem pi_zipS {X : Cx} {e e2 : Expr} {ta : TA} {p pos tpos : Pos} {elts : List Expr} {kk : Nat} (hg : Gl X "zip") (hm : X.mg "zip" = none) (ha : PA X [e, e2] ta)
    (hs : starEach [e, e2] X.env = (false, eval e X.env) :: starEach [e2] X.env) (hpl : (backTo pos (starEach [e2] X.env)).any (·.1) = false) :
    PI X (.Tuple elts kk tpos) (.Call (.Name "zip" p) [e, e2] [] pos) (iZipS X.K ta) := by
  refine ⟨fun pins s σ H R I h => ?_⟩
  refine Call_ (ld_blt I hg hm PyProof.Rows.boot_zip (PyProof.Rows.callWith_type1 (thn (ha.run pos pins s σ H _ I h) fun us s1 ⟨vs, H1, I1, r1, q1⟩ => ?_) hs hpl))
  obtain ⟨a, b, b1, b2, xs, ys, ex, hqx, hqy, q⟩ := q1
  subst ex
  cases r1 with
  | cons r rr =>
    cases rr with
    | cons r' rr =>
      cases rr
      cases r
      cases r'
      obtain ⟨its, rv, p1, _⟩ := sq_inv I1 hqx
      obtain ⟨its2, rv2, p2, _⟩ := sq_inv I1 hqy
      have la : a < s1.heap.objs.size := sq_lt p1
      have lb : b < s1.heap.objs.size := sq_lt p2
      refine zip_begins2 (sqBegins a its.toArray b1) (sqBegins b its2.toArray b2) p1 p2 fun h' hz hTI hTO h1 h2 hsz hk => wpAny_pyIter_zip hz ?_
      have I2 : L2.Inv X pins σ H1 { s1 with heap := h' } := I1.kept (t' := s1.toks) hk
      have ne : ∀ {i j : Nat}, i ≠ j → s1.heap.objs.size + i ≠ s1.heap.objs.size + j := fun h e => h (Nat.add_left_cancel e)
      refine ⟨s1.heap.objs.size + 4, [s1.heap.objs.size + 4, s1.heap.objs.size + 2, s1.heap.objs.size + 3, s1.heap.objs.size, s1.heap.objs.size + 1], _, _, H1, rfl, I2,
        turn_zipS (b1 := b1) (b2 := b2) (a := a) (b := b) (ne (by decide)) (ne (by decide)) (ne (by decide)) (ne (j := 0) (by decide)) (ne (by decide)) (ne (j := 0) (by decide)) (ne (by decide)) (ne (i := 0) (by decide)) (ne (j := 0) (by decide)) (ne (by decide)) (Nat.ne_of_lt (Nat.lt_of_lt_of_le la (Nat.le_add_right _ _))) (Nat.ne_of_lt (Nat.lt_of_lt_of_le lb (Nat.le_add_right _ _))), ⟨hz, hTI, ⟨_, _, hTO⟩, sqIt_new h1, sqIt_new h2⟩, fun c hcm => ?_, q⟩
      have hle : s1.heap.objs.size ≤ c := by
        rcases (by simpa using hcm : c = s1.heap.objs.size + 4 ∨ c = s1.heap.objs.size + 2 ∨ c = s1.heap.objs.size + 3 ∨ c = s1.heap.objs.size ∨ c = s1.heap.objs.size + 1) with z | z | z | z | z
        · rw [z]; exact Nat.le_add_right _ _
        · rw [z]; exact Nat.le_add_right _ _
        · rw [z]; exact Nat.le_add_right _ _
        · rw [z]; exact Nat.le_refl _
        · rw [z]; exact Nat.le_add_right _ _
      exact I1.fpOk hle (I1.hok.fresh hle)
end Tv

/-! iterables told by trees -/
namespace Tv
open PySem PySem.Spec PyProof.Rows L2

def chars (x : Str) : List Val := x.cps.toList.map fun c => .str ⟨#[c]⟩
/-- what a loop walks -/
def vIter : Val → Res (List Val)
  | .lst xs => .ok xs
  | .tup xs => .ok xs
  | .str x => .ok (chars x)
  | .scr xs => .ok xs
  | _ => .stuck
def vSeq : Val → Res (List Val)
  | .lst xs => .ok xs
  | .scr xs => .ok xs
  | .tup xs => .ok xs
  | _ => .stuck
def enum0 : Nat → List Val → List Val
  | _, [] => []
  | i, x :: xs => .tup [.int i, x] :: enum0 (i + 1) xs
def zipV : List Val → List Val → List Val
  | x :: xs, y :: ys => .tup [x, y] :: zipV xs ys
  | _, _ => []
def rangeV (lo c : Int) (n : Nat) : List Val := (List.range n).map fun i => .int (lo + (i : Nat) * c)
theorem enum0_length : ∀ {xs : List Val} {i : Nat}, (enum0 i xs).length = xs.length
  | [], _ => rfl
  | _ :: xs, i => by unfold enum0; simp [enum0_length (xs := xs)]
theorem enum0_get : ∀ {xs : List Val} {i j : Nat} {x : Val}, xs[j]? = some x → (enum0 i xs)[j]? = some (.tup [.int ((i + j : Nat)), x])
  | [], _, _, _, h => by simp at h
  | y :: xs, i, 0, x, h => by simp at h; subst h; rfl
  | y :: xs, i, j + 1, x, h => by
    unfold enum0
    have := enum0_get (xs := xs) (i := i + 1) (j := j) (x := x) (by simpa using h)
    rw [show i + (j + 1) = i + 1 + j from by omega]
    simpa using this
theorem zipV_length : ∀ {xs ys : List Val}, (zipV xs ys).length = min xs.length ys.length
  | [], _ => by unfold zipV; simp
  | _ :: _, [] => by unfold zipV; simp
  | x :: xs, y :: ys => by unfold zipV; simp [zipV_length (xs := xs) (ys := ys)]
theorem zipV_get : ∀ {xs ys : List Val} {j : Nat} {x y : Val}, xs[j]? = some x → ys[j]? = some y → (zipV xs ys)[j]? = some (.tup [x, y])
  | [], _, _, _, _, h, _ => by simp at h
  | _ :: _, [], _, _, _, _, h => by simp at h
  | x :: xs, y :: ys, 0, a, b, h, h' => by simp at h h'; subst h h'; rfl
  | x :: xs, y :: ys, j + 1, a, b, h, h' => by
    unfold zipV
    simpa using zipV_get (xs := xs) (ys := ys) (j := j) (by simpa using h) (by simpa using h')

section
variable {K : PySem.W.Frag} {mg : Str → Option Value} {κ : List Addr} {G : Hp}
theorem rep_seq {x : Val} {v : V} {xs : List Val} (r : Rep K mg κ G x v) (h : vSeq x = .ok xs) : ∃ b a vs, v = .ref a ∧ (∀ H, Le G H → Sq K H b a vs) ∧ RepL K mg κ G xs vs := by
  cases x with
  | lst ys =>
    cases h
    unfold Rep at r
    obtain ⟨a, vs, e, q, t⟩ := r
    exact ⟨false, a, vs, e, fun H l => .inl (.inl (l _ _ q)), t⟩
  | tup ys =>
    cases h
    unfold Rep at r
    obtain ⟨a, vs, e, q, t⟩ := r
    exact ⟨true, a, vs, e, fun H l => l.sqT q, t⟩
  | scr ys =>
    cases h
    unfold Rep at r
    obtain ⟨a, vs, e, q, t⟩ := r
    exact ⟨false, a, vs, e, fun H l => l.sqL q, t⟩
  | _ => cases h
def ItSq (K : PySem.W.Frag) (b : Bool) (a : Addr) : It := ⟨fun i H => ∃ xs x, Sq K H b a xs ∧ xs[i]? = some x, fun i H x H' => H' = H ∧ ∀ xs, Sq K H b a xs → xs[i]? = some x, fun i H => ∃ xs, Sq K H b a xs ∧ xs.length ≤ i⟩
theorem turn_sq {P : Program} {w : World} {tg : Expr} (b : Bool) (a it : Addr) : Turn P w K tg (ItSq K b a) [it] it (fun i h => sqIt h it a i b) := by
  cases b
  · exact turn_list a it
  · exact turn_tuple a it
theorem lget {xs : List Val} {i : Nat} (h : i < xs.length) : xs[i]? = some xs[i] := List.getElem?_eq_getElem h
theorem itR_sq {xs : List Val} {vs : List V} {b : Bool} {a : Addr} (q : ∀ H, Le G H → Sq K H b a vs) (t : RepL K mg κ G xs vs) : ItR K mg κ G xs (ItSq K b a) where
  go := fun i H l h => by
    obtain ⟨v, hv, _⟩ := t.get (lget h)
    exact ⟨vs, v, q H l, hv⟩
  stop := fun H l => ⟨vs, q H l, by rw [t.length]; exact Nat.le_refl _⟩
  yld := fun i H x H' l h it hi => by
    obtain ⟨e, h⟩ := h
    obtain ⟨v, hv, r⟩ := t.get hi
    have e2 := h vs (q H l)
    rw [hv] at e2
    cases e2
    exact .inl ⟨e, r⟩
theorem itR_str {x : Str} : ItR K mg κ G (chars x) (Its x) where
  go := fun i H l h => by
    unfold chars at h
    rw [List.length_map, Array.length_toList] at h
    exact h
  stop := fun H l => by
    unfold chars
    rw [List.length_map, Array.length_toList]
    exact Nat.le_refl _
  yld := fun i H v H' l h it hi => by
    obtain ⟨e, c, hc, ev⟩ := h
    refine .inl ⟨e, ?_⟩
    unfold chars at hi
    rw [List.getElem?_map, Array.getElem?_toList, hc] at hi
    cases hi
    subst ev
    unfold Rep; rfl
theorem itR_rng {lo : Int} {n : Nat} : ItR K mg κ G (rangeV lo 1 n) (Itr lo n) where
  go := fun i H l h => by
    unfold rangeV at h
    show i < n
    simpa using h
  stop := fun H l => by
    unfold rangeV
    simp [Itr]
  yld := fun i H v H' l h it hi => by
    obtain ⟨e, ev⟩ := h
    refine .inl ⟨e, ?_⟩
    unfold rangeV at hi
    rw [List.getElem?_map] at hi
    cases q : (List.range n)[i]? with
    | none => rw [q] at hi; cases hi
    | some j =>
      rw [q] at hi
      have : j = i := by
        have := List.getElem?_eq_some_iff.mp q
        obtain ⟨h1, h2⟩ := this
        simpa using h2.symm
      subst this
      cases hi
      subst ev
      unfold Rep
      rw [Int.mul_one]
theorem itR_rngC {lo c : Int} {n : Nat} : ItR K mg κ G (rangeV lo c n) (Itc lo c n) where
  go := fun i H l h => by
    unfold rangeV at h
    show i < n
    simpa using h
  stop := fun H l => by
    unfold rangeV
    simp [Itc]
  yld := fun i H v H' l h it hi => by
    obtain ⟨e, ev⟩ := h
    refine .inl ⟨e, ?_⟩
    unfold rangeV at hi
    rw [List.getElem?_map] at hi
    cases q : (List.range n)[i]? with
    | none => rw [q] at hi; cases hi
    | some j =>
      rw [q] at hi
      have : j = i := by
        have := List.getElem?_eq_some_iff.mp q
        obtain ⟨h1, h2⟩ := this
        simpa using h2.symm
      subst this
      cases hi
      subst ev
      unfold Rep
      rfl
theorem itR_enum {xs : List Val} {vs : List V} {b : Bool} {a : Addr} (q : ∀ H, Le G H → Sq K H b a vs) (t : RepL K mg κ G xs vs) : ItR K mg κ G (enum0 0 xs) (IteS K b a) where
  go := fun i H l h => by
    rw [enum0_length] at h
    obtain ⟨v, hv, _⟩ := t.get (lget h)
    exact ⟨vs, v, q H l, hv⟩
  stop := fun H l => ⟨vs, q H l, by rw [enum0_length, t.length]⟩
  yld := fun i H x H' l h it hi => by
    obtain ⟨T, y, e1, e2, e3, h⟩ := h
    have hl : i < xs.length := by
      have := (List.getElem?_eq_some_iff.mp hi).1
      rw [enum0_length] at this
      exact this
    obtain ⟨v, hv, r⟩ := t.get (lget hl)
    have e4 := h vs (q H l)
    rw [hv] at e4
    cases e4
    rw [enum0_get (lget hl)] at hi
    cases hi
    exact .inr ⟨T, _, _, e2, e3, e1, rfl, .cons (by unfold Rep; rw [Nat.zero_add]) (.cons r .nil)⟩
theorem itR_zip {xs ys : List Val} {vs ws : List V} {b1 b2 : Bool} {a1 a2 : Addr} (q : ∀ H, Le G H → Sq K H b1 a1 vs) (t : RepL K mg κ G xs vs) (q2 : ∀ H, Le G H → Sq K H b2 a2 ws) (t2 : RepL K mg κ G ys ws) : ItR K mg κ G (zipV xs ys) (ItzS K b1 b2 a1 a2) where
  go := fun i H l h => by
    rw [zipV_length] at h
    obtain ⟨v, hv, _⟩ := t.get (lget (i := i) (by omega))
    obtain ⟨w, hw, _⟩ := t2.get (lget (i := i) (by omega))
    exact ⟨vs, ws, v, w, q H l, q2 H l, hv, hw⟩
  stop := fun H l => ⟨vs, ws, q H l, q2 H l, by rw [zipV_length, t.length, t2.length]⟩
  yld := fun i H x H' l h it hi => by
    obtain ⟨T, y, z, e1, e2, e3, h, h'⟩ := h
    have hl : i < (zipV xs ys).length := (List.getElem?_eq_some_iff.mp hi).1
    rw [zipV_length] at hl
    obtain ⟨v, hv, r⟩ := t.get (lget (i := i) (by omega))
    obtain ⟨w, hw, r2⟩ := t2.get (lget (i := i) (by omega))
    have e4 := h vs (q H l)
    have e5 := h' ws (q2 H l)
    rw [hv] at e4
    rw [hw] at e5
    cases e4
    cases e5
    rw [zipV_get (lget (i := i) (by omega)) (lget (i := i) (by omega))] at hi
    cases hi
    exact .inr ⟨T, _, _, e2, e3, e1, rfl, .cons r (.cons r2 .nil)⟩
end

section
variable {X : Cx} {N : List Str} {sc : Scope} {k : Nat} {E : Env} {m : Type → Type} [Mon m]
theorem vIter_exn {x : Val} {c : Str} {fs : List (Str × Val)} : vIter x ≠ .exn c fs := fun h => by cases x <;> cases h
/-- a value that is walked -/
theorem wi_val {tg e : Expr} {r : m Val} (h : Ev X E e r) : Wi X E tg e (r >>= fun x => Mon.of (vIter x)) := by
  intro B0 S κ G σ H sat W tk R q
  refine ⟨fun pins s I => ?_⟩
  refine thn ((h B0 S κ G σ H sat W tk _ (bindP (R := Rep X.K X.mg) q)).run pins s I) fun u s1 ⟨v, H1, I1, r1, x, κ1, G1, S1, e1, rx, h1⟩ => ?_
  have h2 := h1.ofOk
  cases x with
  | lst xs =>
    obtain ⟨b, a, vs, ev, hq, t⟩ := rep_seq rx rfl
    subst ev
    cases r1
    obtain ⟨its, rv, p, hz⟩ := sq_inv I1 (hq H1 e1.e.w.le)
    refine (sqBegins a its.toArray b).iter _ _ _ _ _ _ p (pi_one (tk := s1.toks) I1 _ (turn_sq b a _) (sqIt_new (Heap.get?_push_size _ (by cases b <;> rfl))) ?_)
    exact h2 κ1 G1 H1 _ (ExtB.refl e1.e.w) (itR_sq hq t)
  | tup xs =>
    obtain ⟨b, a, vs, ev, hq, t⟩ := rep_seq rx rfl
    subst ev
    cases r1
    obtain ⟨its, rv, p, hz⟩ := sq_inv I1 (hq H1 e1.e.w.le)
    refine (sqBegins a its.toArray b).iter _ _ _ _ _ _ p (pi_one (tk := s1.toks) I1 _ (turn_sq b a _) (sqIt_new (Heap.get?_push_size _ (by cases b <;> rfl))) ?_)
    exact h2 κ1 G1 H1 _ (ExtB.refl e1.e.w) (itR_sq hq t)
  | scr xs =>
    obtain ⟨b, a, vs, ev, hq, t⟩ := rep_seq rx rfl
    subst ev
    cases r1
    obtain ⟨its, rv, p, hz⟩ := sq_inv I1 (hq H1 e1.e.w.le)
    refine (sqBegins a its.toArray b).iter _ _ _ _ _ _ p (pi_one (tk := s1.toks) I1 _ (turn_sq b a _) (sqIt_new (Heap.get?_push_size _ (by cases b <;> rfl))) ?_)
    exact h2 κ1 G1 H1 _ (ExtB.refl e1.e.w) (itR_sq hq t)
  | str x =>
    unfold Rep at rx
    subst rx
    obtain ⟨t, rfl⟩ := r1
    have q := h2 κ1 G1 H1 _ (ExtB.refl e1.e.w) itR_str
    cases ha : x.cps.all (· < 128)
    · exact wpAny_pyIter_wide ha (pi_one (tk := s1.toks) I1 _ (turn_str _ x t "str_iterator" (.inr rfl)) ⟨_, Heap.get?_push_size _ rfl, rfl, rfl⟩ q)
    · exact wpAny_pyIter_ascii ha (pi_one (tk := s1.toks) I1 _ (turn_str _ x t "str_ascii_iterator" (.inl rfl)) ⟨_, Heap.get?_push_size _ rfl, rfl, rfl⟩ q)
  | _ => exact h2.elim
/-- an iterable made of arguments -/
theorem wi_args {tg iter : Expr} {es : List Expr} {rs : m (List Val)} {f : List Val → Res (List Val)} {T : TA → TI} (hp : PI X tg iter (T (WA X es)))
    (h : Ea X E es rs) (ht : ∀ σ H R ta, T ta σ H R = ta σ H (fun vs H1 => T (fun σ H Q => Q vs H) σ H1 R))
    (hf : ∀ κ G H S σ xs vs R W, Wd X.K X.mg κ G H S → RepL X.K X.mg κ G xs vs → Post X.K X.mg true (ItR X.K X.mg) κ G H S (lift (f xs) S) R W → T (fun σ H Q => Q vs H) σ H R) :
    Wi X E tg iter (rs >>= fun xs => Mon.of (f xs)) := by
  intro B0 S κ G σ H sat W tk R q
  refine wi_of hp ?_
  rw [ht]
  refine h B0 S κ G σ H sat W tk _ (bindW q fun xs vs κ1 G1 H1 S1 e1 r1 h1 => ?_)
  exact hf κ1 G1 H1 S1 σ xs vs R _ e1.e.w r1 h1.ofOk
def vRange1 : List Val → Res (List Val)
  | [.int j] => if -(2 ^ 62) ≤ j ∧ j < 2 ^ 62 then .ok (rangeV 0 1 j.toNat) else .stuck
  | _ => .stuck
def vRange2 : List Val → Res (List Val)
  | [.int i, .int j] => if -(2 ^ 62) ≤ i ∧ i < 2 ^ 62 ∧ -(2 ^ 62) ≤ j ∧ j < 2 ^ 62 then .ok (rangeV i 1 (j - i).toNat) else .stuck
  | _ => .stuck
def vRange3 : List Val → Res (List Val)
  | [.int i, .int j, .int c] => if c ≠ 0 ∧ c.natAbs < 1073741824 ∧ Builtin.Range.small i j c = true ∧ Builtin.Range.rangeSize i j c = ((Builtin.Range.rangeSize i j c).toNat : Int) then .ok (rangeV i c (Builtin.Range.rangeSize i j c).toNat) else .stuck
  | _ => .stuck
def vEnum : List Val → Res (List Val)
  | [x] => vSeq x >>= fun xs => .ok (enum0 0 xs)
  | _ => .stuck
def vZip : List Val → Res (List Val)
  | [x, y] => vSeq x >>= fun xs => vSeq y >>= fun ys => .ok (zipV xs ys)
  | _ => .stuck
theorem vSeq_cases (x : Val) : (∃ xs, vSeq x = .ok xs) ∨ vSeq x = .stuck := by cases x <;> first | exact .inl ⟨_, rfl⟩ | exact .inr rfl
variable {tg a b d : Expr} {p pos : Pos} {rs : m (List Val)}
theorem repL1 {K : PySem.W.Frag} {mg : Str → Option Value} {κ : List Addr} {G : Hp} {x : Val} {vs : List V} (h : RepL K mg κ G [x] vs) : ∃ v, vs = [v] ∧ Rep K mg κ G x v := by
  unfold RepL at h
  obtain ⟨v, r, e, h1, h2⟩ := h
  unfold RepL at h2
  subst h2 e
  exact ⟨v, rfl, h1⟩
theorem repL2 {K : PySem.W.Frag} {mg : Str → Option Value} {κ : List Addr} {G : Hp} {x y : Val} {vs : List V} (h : RepL K mg κ G [x, y] vs) : ∃ v u, vs = [v, u] ∧ Rep K mg κ G x v ∧ Rep K mg κ G y u := by
  unfold RepL at h
  obtain ⟨v, r, e, h1, h2⟩ := h
  obtain ⟨u, e2, h3⟩ := repL1 h2
  subst e e2
  exact ⟨v, u, rfl, h1, h3⟩
theorem repL3 {K : PySem.W.Frag} {mg : Str → Option Value} {κ : List Addr} {G : Hp} {x y z : Val} {vs : List V} (h : RepL K mg κ G [x, y, z] vs) : ∃ v u w, vs = [v, u, w] ∧ Rep K mg κ G x v ∧ Rep K mg κ G y u ∧ Rep K mg κ G z w := by
  unfold RepL at h
  obtain ⟨v, r, e, h1, h2⟩ := h
  obtain ⟨u, w, e2, h3, h4⟩ := repL2 h2
  subst e e2
  exact ⟨v, u, w, rfl, h1, h3, h4⟩
theorem rep_int {K : PySem.W.Frag} {mg : Str → Option Value} {κ : List Addr} {G : Hp} {i : Int} {v : V} (h : Rep K mg κ G (.int i) v) : v = .int i := by unfold Rep at h; exact h
theorem wi_range1 (c : Ctx X N sc k) (hg : glB sc "range" = true) (hm : X.mg "range" = none) (ha : Ea X E [a] rs) (hs : notStar a = true := by rfl) :
    Wi X E tg (.Call (.Name "range" p) [a] [] pos) (rs >>= fun xs => Mon.of (vRange1 xs)) := by
  refine wi_args (T := iRng1) (pi_range1 (c.gl hg).1 hm pa_self (star_of hs [] X.env)) ha (fun _ _ _ _ => rfl) fun κ G H S σ xs vs R W w r h => ?_
  unfold vRange1 at h
  split at h
  · split at h
    · obtain ⟨v, e, rv⟩ := repL1 r
      rw [rep_int rv] at e
      subst e
      rename_i hh
      exact ⟨_, rfl, hh.1, hh.2, h κ G H _ (ExtB.refl w) itR_rng⟩
    · exact h.elim
  · exact h.elim
theorem wi_range2 (c : Ctx X N sc k) (hg : glB sc "range" = true) (hm : X.mg "range" = none) (ha : Ea X E [a, b] rs) (hs : notStar a = true := by rfl) (hs2 : notStar b = true := by rfl) :
    Wi X E tg (.Call (.Name "range" p) [a, b] [] pos) (rs >>= fun xs => Mon.of (vRange2 xs)) := by
  refine wi_args (T := iRng2) (pi_range2 (c.gl hg).1 hm pa_self ((star_of hs [b] X.env).trans (by rw [star_of hs2 [] X.env]; rfl)) (star_of hs2 [] X.env)) ha (fun _ _ _ _ => rfl) fun κ G H S σ xs vs R W w r h => ?_
  unfold vRange2 at h
  split at h
  · split at h
    · obtain ⟨v, u, e, rv, ru⟩ := repL2 r
      rw [rep_int rv, rep_int ru] at e
      subst e
      rename_i hh
      exact ⟨_, _, rfl, hh, h κ G H _ (ExtB.refl w) itR_rng⟩
    · exact h.elim
  · exact h.elim
theorem wi_range3 (c : Ctx X N sc k) (hg : glB sc "range" = true) (hm : X.mg "range" = none) (ha : Ea X E [a, b, d] rs) (hs : noStars [a, b, d] = true := by rfl) :
    Wi X E tg (.Call (.Name "range" p) [a, b, d] [] pos) (rs >>= fun xs => Mon.of (vRange3 xs)) := by
  obtain ⟨s1, s2⟩ := Bool.and_eq_true_iff.mp hs
  refine wi_args (T := iRng3) (pi_range3 (c.gl hg).1 hm pa_self (star_of s1 _ X.env) (plain_of s2 pos X.env)) ha (fun _ _ _ _ => rfl) fun κ G H S σ xs vs R W w r h => ?_
  unfold vRange3 at h
  split at h
  · split at h
    · obtain ⟨v, u, z, e, rv, ru, rz⟩ := repL3 r
      rw [rep_int rv, rep_int ru, rep_int rz] at e
      subst e
      rename_i hh
      exact ⟨_, _, _, _, rfl, hh, h κ G H _ (ExtB.refl w) itR_rngC⟩
    · exact h.elim
  · exact h.elim
theorem wi_enum (c : Ctx X N sc k) {elts : List Expr} {kk} {tpos : Pos} (hg : glB sc "enumerate" = true) (hm : X.mg "enumerate" = none) (ha : Ea X E [a] rs) (hs : notStar a = true := by rfl) :
    Wi X E (.Tuple elts kk tpos) (.Call (.Name "enumerate" p) [a] [] pos) (rs >>= fun xs => Mon.of (vEnum xs)) := by
  refine wi_args (T := iEnumS X.K) (pi_enumS (c.gl hg).1 hm pa_self (star_of hs [] X.env)) ha (fun _ _ _ _ => rfl) fun κ G H S σ xs vs R W w r h => ?_
  unfold vEnum at h
  split at h
  · rename_i x
    obtain ⟨v, e, rv⟩ := repL1 r
    rcases vSeq_cases x with ⟨ys, hy⟩ | hy
    · rw [hy] at h
      obtain ⟨b, ad, ws, ev, hq, t⟩ := rep_seq rv hy
      subst ev e
      exact ⟨ad, b, ws, rfl, hq H w.le, h κ G H _ (ExtB.refl w) (itR_enum hq t)⟩
    · rw [hy] at h
      exact h.elim
  · exact h.elim
theorem wi_zip (c : Ctx X N sc k) {elts : List Expr} {kk} {tpos : Pos} (hg : glB sc "zip" = true) (hm : X.mg "zip" = none) (ha : Ea X E [a, b] rs) (hs : noStars [a, b] = true := by rfl) :
    Wi X E (.Tuple elts kk tpos) (.Call (.Name "zip" p) [a, b] [] pos) (rs >>= fun xs => Mon.of (vZip xs)) := by
  obtain ⟨s1, s2⟩ := Bool.and_eq_true_iff.mp hs
  refine wi_args (T := iZipS X.K) (pi_zipS (c.gl hg).1 hm pa_self (star_of s1 _ X.env) (plain_of s2 pos X.env)) ha (fun _ _ _ _ => rfl) fun κ G H S σ xs vs R W w r h => ?_
  unfold vZip at h
  split at h
  · rename_i x y
    obtain ⟨v, u, e, rv, ru⟩ := repL2 r
    rcases vSeq_cases x with ⟨xs', hx⟩ | hx
    · rw [hx] at h
      rcases vSeq_cases y with ⟨ys, hy⟩ | hy
      · have h : Post X.K X.mg true (ItR X.K X.mg) κ G H S (lift (vSeq y >>= fun ys => .ok (zipV xs' ys)) S) R W := h
        rw [hy] at h
        obtain ⟨b1, a1, ws, ev, hq, t⟩ := rep_seq rv hx
        obtain ⟨b2, a2, ws2, ev2, hq2, t2⟩ := rep_seq ru hy
        subst ev ev2 e
        exact ⟨a1, a2, b1, b2, ws, ws2, rfl, hq H w.le, hq2 H w.le, h κ G H _ (ExtB.refl w) (itR_zip hq t hq2 t2)⟩
      · have h : Post X.K X.mg true (ItR X.K X.mg) κ G H S (lift (vSeq y >>= fun ys => .ok (zipV xs' ys)) S) R W := h
        rw [hy] at h
        exact h.elim
    · rw [hx] at h
      exact h.elim
  · exact h.elim
end
end Tv

/-! operations on trees -/
namespace Tv
open PySem PySem.Spec PyProof.Rows L2

section
variable {K : PySem.W.Frag} {mg : Str → Option Value} {κ : List Addr} {G H : Hp} {v : V}
theorem rep_non (h : Rep K mg κ G .non v) : v = .non := by unfold Rep at h; exact h
theorem rep_bl {i : Bool} (h : Rep K mg κ G (.bl i) v) : v = .bl i := by unfold Rep at h; exact h
theorem rep_str {i : Str} (h : Rep K mg κ G (.str i) v) : v = .str i := by unfold Rep at h; exact h
theorem rep_lst {xs : List Val} (h : Rep K mg κ G (.lst xs) v) : ∃ a vs, v = .ref a ∧ G a = some (.lst vs) ∧ RepL K mg κ G xs vs := by unfold Rep at h; exact h
theorem rep_scr {xs : List Val} (h : Rep K mg κ G (.scr xs) v) : ∃ a vs, v = .ref a ∧ SqL K G a vs ∧ RepL K mg κ G xs vs := by unfold Rep at h; exact h
theorem rep_tup {xs : List Val} (h : Rep K mg κ G (.tup xs) v) : ∃ a vs, v = .ref a ∧ SqT K G a vs ∧ RepL K mg κ G xs vs := by unfold Rep at h; exact h
theorem repI (i : Int) : Rep K mg κ G (.int i) (.int i) := by unfold Rep; rfl
theorem repB (i : Bool) : Rep K mg κ G (.bl i) (.bl i) := by unfold Rep; rfl
theorem repS (i : Str) : Rep K mg κ G (.str i) (.str i) := by unfold Rep; rfl
theorem repN : Rep K mg κ G .non .non := by unfold Rep; rfl
theorem RepL.take : ∀ {xs : List Val} {vs : List V} (n : Nat), RepL K mg κ G xs vs → RepL K mg κ G (xs.take n) (vs.take n)
  | _, _, 0, _ => .nil
  | [], _, n + 1, h => by unfold RepL at h; subst h; exact .nil
  | x :: xs, _, n + 1, h => by
    unfold RepL at h
    obtain ⟨v, r, e, h1, h2⟩ := h
    subst e
    exact .cons h1 (RepL.take n h2)
theorem RepL.drop : ∀ {xs : List Val} {vs : List V} (n : Nat), RepL K mg κ G xs vs → RepL K mg κ G (xs.drop n) (vs.drop n)
  | _, _, 0, h => h
  | [], _, n + 1, h => by unfold RepL at h; subst h; exact .nil
  | x :: xs, _, n + 1, h => by
    unfold RepL at h
    obtain ⟨v, r, e, h1, h2⟩ := h
    subst e
    exact RepL.drop n h2
theorem RepL.reps {xs : List Val} {vs : List V} (h : RepL K mg κ G xs vs) : ∀ n : Nat, RepL K mg κ G (List.replicate n xs).flatten (List.replicate n vs).flatten
  | 0 => .nil
  | n + 1 => by
    rw [List.replicate_succ, List.replicate_succ, List.flatten_cons, List.flatten_cons]
    exact h.append (RepL.reps h n)
theorem RepL.reverse : ∀ {xs : List Val} {vs : List V}, RepL K mg κ G xs vs → RepL K mg κ G xs.reverse vs.reverse
  | [], _, h => by unfold RepL at h; subst h; exact .nil
  | x :: xs, _, h => by
    unfold RepL at h
    obtain ⟨v, r, e, h1, h2⟩ := h
    subst e
    rw [List.reverse_cons, List.reverse_cons]
    exact (RepL.reverse h2).append (.cons h1 .nil)
theorem RepL.set : ∀ {xs : List Val} {vs : List V} {x : Val} {v : V} (n : Nat), RepL K mg κ G xs vs → Rep K mg κ G x v → RepL K mg κ G (xs.set n x) (vs.set n v)
  | [], _, _, _, n, h, r => by unfold RepL at h; subst h; exact .nil
  | x :: xs, _, _, _, 0, h, r => by
    unfold RepL at h
    obtain ⟨v, r', e, h1, h2⟩ := h
    subst e
    exact .cons r h2
  | x :: xs, _, _, _, n + 1, h, r => by
    unfold RepL at h
    obtain ⟨v, r', e, h1, h2⟩ := h
    subst e
    exact .cons h1 (RepL.set n h2 r)
def intsV : List Val → Option (List Int)
  | [] => some []
  | .int i :: xs => (intsV xs).map (i :: ·)
  | _ => none
def strsV : List Val → Option (List Str)
  | [] => some []
  | .str i :: xs => (strsV xs).map (i :: ·)
  | _ => none
def boolsV : List Val → Option (List Bool)
  | [] => some []
  | .bl i :: xs => (boolsV xs).map (i :: ·)
  | _ => none
theorem ints_rep : ∀ {xs : List Val} {ns : List Int} {vs : List V}, intsV xs = some ns → RepL K mg κ G xs vs → vs = ns.map V.int
  | [], _, _, e, h => by cases e; unfold RepL at h; exact h
  | x :: xs, ns, _, e, h => by
    unfold RepL at h
    obtain ⟨v, r, e', h1, h2⟩ := h
    cases x with
    | int i =>
      unfold intsV at e
      cases q : intsV xs with
      | none => rw [q] at e; cases e
      | some ms =>
        rw [q] at e
        cases e
        rw [e', rep_int h1, ints_rep q h2]
        rfl
    | _ => cases e
theorem strs_rep : ∀ {xs : List Val} {ns : List Str} {vs : List V}, strsV xs = some ns → RepL K mg κ G xs vs → vs = ns.map V.str
  | [], _, _, e, h => by cases e; unfold RepL at h; exact h
  | x :: xs, ns, _, e, h => by
    unfold RepL at h
    obtain ⟨v, r, e', h1, h2⟩ := h
    cases x with
    | str i =>
      unfold strsV at e
      cases q : strsV xs with
      | none => rw [q] at e; cases e
      | some ms =>
        rw [q] at e
        cases e
        rw [e', rep_str h1, strs_rep q h2]
        rfl
    | _ => cases e
theorem bools_rep : ∀ {xs : List Val} {ns : List Bool} {vs : List V}, boolsV xs = some ns → RepL K mg κ G xs vs → vs = ns.map V.bl
  | [], _, _, e, h => by cases e; unfold RepL at h; exact h
  | x :: xs, ns, _, e, h => by
    unfold RepL at h
    obtain ⟨v, r, e', h1, h2⟩ := h
    cases x with
    | bl i =>
      unfold boolsV at e
      cases q : boolsV xs with
      | none => rw [q] at e; cases e
      | some ms =>
        rw [q] at e
        cases e
        rw [e', rep_bl h1, bools_rep q h2]
        rfl
    | _ => cases e
theorem rep_ints : ∀ (ns : List Int), RepL K mg κ G (ns.map Val.int) (ns.map V.int)
  | [] => .nil
  | n :: ns => .cons (repI n) (rep_ints ns)
mutual
def toPD : Val → Option PyData
  | .non => some .none
  | .bl b => some (.bool b)
  | .int i => some (.int i)
  | .str x => some (.str x)
  | .lst xs => (toPDs xs).map .list
  | .tup xs => (toPDs xs).map .tuple
  | _ => none
def toPDs : List Val → Option (List PyData)
  | [] => some []
  | x :: xs => match toPD x, toPDs xs with
    | some d, some ds => some (d :: ds)
    | _, _ => none
end
mutual
theorem dp_of (l : Le G H) : ∀ {x : Val} {v : V} {d : PyData}, Rep K mg κ G x v → toPD x = some d → Dp K H v d
  | .non, _, _, h, e => by cases e; rw [rep_non h]; exact .non
  | .bl b, _, _, h, e => by cases e; rw [rep_bl h]; exact .bl b
  | .int b, _, _, h, e => by cases e; rw [rep_int h]; exact .int b
  | .str b, _, _, h, e => by cases e; rw [rep_str h]; exact .str b
  | .lst xs, _, _, h, e => by
    obtain ⟨a, vs, ev, q, t⟩ := rep_lst h
    unfold toPD at e
    cases q2 : toPDs xs with
    | none => rw [q2] at e; cases e
    | some ds =>
      rw [q2] at e
      cases e
      subst ev
      exact .lst (.inl (.inl (l _ _ q))) (dps_of l t q2)
  | .tup xs, _, _, h, e => by
    obtain ⟨a, vs, ev, q, t⟩ := rep_tup h
    unfold toPD at e
    cases q2 : toPDs xs with
    | none => rw [q2] at e; cases e
    | some ds =>
      rw [q2] at e
      cases e
      subst ev
      exact .tup (l.sqT q) (dps_of l t q2)
  | .dic _, _, _, _, e => by cases e
  | .obj _ _, _, _, _, e => by cases e
  | .cell _, _, _, _, e => by cases e
  | .scr _, _, _, _, e => by cases e
theorem dps_of (l : Le G H) : ∀ {xs : List Val} {vs : List V} {ds : List PyData}, RepL K mg κ G xs vs → toPDs xs = some ds → DpAll K H vs ds
  | [], _, _, h, e => by unfold RepL at h; subst h; cases e; exact .nil
  | x :: xs, _, _, h, e => by
    unfold RepL at h
    obtain ⟨v, r, e', h1, h2⟩ := h
    subst e'
    unfold toPDs at e
    cases q1 : toPD x with
    | none => rw [q1] at e; cases e
    | some d =>
      cases q2 : toPDs xs with
      | none => rw [q1, q2] at e; cases e
      | some ds =>
        rw [q1, q2] at e
        cases e
        exact .cons (dp_of l h1 q1) (dps_of l h2 q2)
end
end

/-! ### what the operations do -/
def oAdd : Val → Val → Res Val
  | .int i, .int j => .ok (.int (i + j))
  | .str x, .str y => if x.length + y.length ≤ sizeLine then .ok (.str (x ++ y)) else .stuck
  | .lst xs, .lst ys => if xs.length + ys.length ≤ sizeLine then .ok (.lst (xs ++ ys)) else .stuck
  | .tup xs, .tup ys => if xs.length + ys.length ≤ sizeLine then .ok (.tup (xs ++ ys)) else .stuck
  | _, _ => .stuck
def oSub : Val → Val → Res Val
  | .int i, .int j => .ok (.int (i - j))
  | _, _ => .stuck
def smallB (i : Int) : Bool := decide (-18446744073709551616 < i) && decide (i < 18446744073709551616)
def oMul : Val → Val → Res Val
  | .int i, .int j => if (smallB i || smallB j) = true then .ok (.int (i * j)) else .stuck
  | .lst xs, .int k => if decide (-9223372036854775808 ≤ k) && decide (k < 9223372036854775808) && decide (xs.length * k.toNat ≤ sizeLine) then .ok (.lst (List.replicate k.toNat xs).flatten) else .stuck
  | .tup xs, .int k => if !xs.isEmpty && decide (2 ≤ k) && decide (k ≤ 1000) && decide (xs.length ≤ 1000) then .ok (.tup (List.replicate k.toNat xs).flatten) else .stuck
  | _, _ => .stuck
def oFdiv : Val → Val → Res Val
  | .int i, .int j => if j ≠ 0 ∧ j.natAbs < 1073741824 then .ok (.int (i.fdiv j)) else .stuck
  | _, _ => .stuck
def oMod : Val → Val → Res Val
  | .int i, .int j => if j ≠ 0 then .ok (.int (i.fmod j)) else .stuck
  | _, _ => .stuck
def oPow : Val → Val → Res Val
  | .int i, .int j => if 0 ≤ j ∧ j ≤ 1000000 ∧ i.natAbs < 18446744073709551616 then .ok (.int (i ^ j.toNat)) else .stuck
  | _, _ => .stuck
def oAnd : Val → Val → Res Val
  | .int i, .int j => .ok (.int (Builtin.bitAnd i j))
  | _, _ => .stuck
def oLt : Val → Val → Res Val
  | .int i, .int j => .ok (.bl (decide (i < j)))
  | _, _ => .stuck
def oLe : Val → Val → Res Val
  | .int i, .int j => .ok (.bl (decide (i ≤ j)))
  | _, _ => .stuck
def oGt : Val → Val → Res Val
  | .int i, .int j => .ok (.bl (decide (j < i)))
  | _, _ => .stuck
def oGe : Val → Val → Res Val
  | .int i, .int j => .ok (.bl (decide (j ≤ i)))
  | _, _ => .stuck
def pdEq (x y : Val) : Option Bool := match toPD x, toPD y with
  | some d, some e => if SeqAt.shaped d && SeqAt.shaped e then some (PyData.eqv d e) else none
  | _, _ => none
def strEq : Val → Val → Res Bool
  | .str a, .str b => .ok (decide (a = b))
  | _, _ => .stuck
def oEq (x y : Val) : Res Val := match pdEq x y with
  | some b => .ok (.bl b)
  | none => match strEq x y with
    | .ok b => .ok (.bl b)
    | _ => .stuck
def oNe (x y : Val) : Res Val := match pdEq x y with
  | some b => .ok (.bl (!b))
  | none => match strEq x y with
    | .ok b => .ok (.bl (!b))
    | _ => .stuck
theorem strEq_ok {x y : Val} {b : Bool} (h : strEq x y = .ok b) : ∃ a c, x = .str a ∧ y = .str c ∧ b = decide (a = c) := by
  unfold strEq at h
  split at h
  · cases h; exact ⟨_, _, rfl, rfl, rfl⟩
  · cases h
def isNon : Val → Bool
  | .non => true
  | _ => false
def oIsN : Val → Val → Res Val
  | x, .non => .ok (.bl (isNon x))
  | _, _ => .stuck
def oNotN : Val → Val → Res Val
  | x, .non => .ok (.bl (!isNon x))
  | _, _ => .stuck
def pdIn (x : Val) (ys : List Val) : Option Bool := match toPD x, toPDs ys with
  | some d, some ds => if SeqAt.shaped d && SeqAt.shaped (.list ds) then some (ds.any fun z => PyData.eqv z d) else none
  | _, _ => none
/-- a value of a flat kind -/
def flatB : Val → Bool
  | .non => true
  | .bl _ => true
  | .int _ => true
  | .str _ => true
  | _ => false
def eqB : Val → Val → Bool
  | .non, .non => true
  | .bl a, .bl b => a == b
  | .bl a, .int j => (if a then 1 else 0) == j
  | .int i, .bl b => i == (if b then 1 else 0)
  | .int i, .int j => i == j
  | .str a, .str b => a == b
  | _, _ => false
def inB (x : Val) (ys : List Val) : Res Bool :=
  if flatB x && ys.all flatB then .ok (ys.any fun y => eqB y x) else match pdIn x ys with
    | some b => .ok b
    | none => .stuck

section
variable {X : Cx}
theorem Post.okR {α γ : Type} {K : PySem.W.Frag} {mg : Str → Option Value} {p : Bool} {R : List Addr → Hp → α → γ → Prop} {κ : List Addr} {G H : Hp} {S : Cells} {x : α} {v : γ} {Q : γ → Hp → Prop} {W : Value → Option Addr → Hp → Prop}
    (h : Post K mg p R κ G H S (lift (.ok x) S) Q W) (w : Wd K mg κ G H S) (r : R κ G x v) : Q v H := h κ G H v (ExtB.refl w) r
theorem o_add : Op2 X (binaryOp .Add) oAdd := by
  intro κ G H S x y v u Q W w rx ry h
  unfold oAdd at h
  split at h
  · rw [rep_int rx, rep_int ry]; exact wo_of op_add ⟨_, _, rfl, rfl, h.okR w (repI _)⟩
  · split at h
    · rw [rep_str rx, rep_str ry]; exact wo_of op_add_str ⟨_, _, rfl, rfl, by assumption, h.okR w (repS _)⟩
    · exact h.elim
  · split at h
    · obtain ⟨a, vs, e, q, t⟩ := rep_lst rx
      obtain ⟨b, ws, e2, q2, t2⟩ := rep_lst ry
      subst e e2
      exact wo_of op_cat ⟨a, b, vs, ws, rfl, rfl, w.le _ _ q, w.le _ _ q2, by rw [t.length, t2.length]; assumption, fun p hp => new_lst w hp (t.append t2) h⟩
    · exact h.elim
  · split at h
    · obtain ⟨a, vs, e, q, t⟩ := rep_tup rx
      obtain ⟨b, ws, e2, q2, t2⟩ := rep_tup ry
      subst e e2
      refine wo_of op_catA ⟨a, b, vs, ws, rfl, rfl, w.le.sqT q, w.le.sqT q2, by rw [t.length, t2.length]; assumption, fun e => ?_, fun e e2 => ?_, fun e e2 p hp => new_tup w hp (t.append t2) h⟩
      · refine h.okR w ?_
        unfold Rep
        refine ⟨b, ws, rfl, q2, ?_⟩
        have := t.append t2
        rw [e] at this
        exact this
      · refine h.okR w ?_
        unfold Rep
        refine ⟨a, vs, rfl, q, ?_⟩
        have := t.append t2
        rw [e2, List.append_nil] at this
        exact this
    · exact h.elim
  · exact h.elim
theorem o_sub : Op2 X (binaryOp .Sub) oSub := by
  intro κ G H S x y v u Q W w rx ry h
  unfold oSub at h
  split at h
  · rw [rep_int rx, rep_int ry]; exact wo_of op_sub ⟨_, _, rfl, rfl, h.okR w (repI _)⟩
  · exact h.elim
theorem smallB_of {i : Int} (h : smallB i = true) : -(2 ^ 64) < i ∧ i < 2 ^ 64 := by
  unfold smallB at h
  simp only [Bool.and_eq_true, decide_eq_true_eq] at h
  omega
theorem o_mul : Op2 X (binaryOp .Mult) oMul := by
  intro κ G H S x y v u Q W w rx ry h
  unfold oMul at h
  split at h
  · split at h
    · rename_i hh
      rw [rep_int rx, rep_int ry]
      refine wo_of op_mul ⟨_, _, rfl, rfl, ?_, h.okR w (repI _)⟩
      rcases Bool.or_eq_true_iff.mp hh with z | z
      · exact .inl (smallB_of z)
      · exact .inr (smallB_of z)
    · exact h.elim
  · split at h
    · rename_i hh
      simp only [Bool.and_eq_true, decide_eq_true_eq] at hh
      obtain ⟨a, vs, e, q, t⟩ := rep_lst rx
      subst e
      rw [rep_int ry]
      exact wo_of op_rep ⟨a, _, vs, rfl, rfl, w.le _ _ q, by omega, by omega, by rw [t.length]; exact hh.2, fun p hp => new_lst w hp (t.reps _) h⟩
    · exact h.elim
  · split at h
    · rename_i hh
      simp only [Bool.and_eq_true, decide_eq_true_eq, Bool.not_eq_true'] at hh
      obtain ⟨a, vs, e, q, t⟩ := rep_tup rx
      subst e
      rw [rep_int ry]
      refine wo_of op_repT ⟨a, _, vs, rfl, rfl, w.le.sqT q, ?_, by omega, by omega, by rw [t.length]; exact hh.2, fun p hp => new_tup w hp (t.reps _) h⟩
      intro z
      have l := t.length
      rw [z] at l
      rename_i xs k
      cases xs with
      | nil => simp at hh
      | cons _ _ => simp at l
    · exact h.elim
  · exact h.elim
theorem o_fdiv : Op2 X (binaryOp .FloorDiv) oFdiv := by
  intro κ G H S x y v u Q W w rx ry h
  unfold oFdiv at h
  split at h
  · split at h
    · rw [rep_int rx, rep_int ry]; exact wo_of op_fdivN ⟨_, _, rfl, rfl, by assumption, h.okR w (repI _)⟩
    · exact h.elim
  · exact h.elim
theorem o_mod : Op2 X (binaryOp .Mod) oMod := by
  intro κ G H S x y v u Q W w rx ry h
  unfold oMod at h
  split at h
  · split at h
    · rw [rep_int rx, rep_int ry]; exact wo_of op_modN ⟨_, _, rfl, rfl, by assumption, h.okR w (repI _)⟩
    · exact h.elim
  · exact h.elim
theorem o_pow : Op2 X (binaryOp .Pow) oPow := by
  intro κ G H S x y v u Q W w rx ry h
  unfold oPow at h
  split at h
  · split at h
    · rename_i hh
      rw [rep_int rx, rep_int ry]; exact wo_of op_pow ⟨_, _, rfl, rfl, ⟨hh.1, hh.2.1, by omega⟩, h.okR w (repI _)⟩
    · exact h.elim
  · exact h.elim
theorem o_and : Op2 X (binaryOp .BitAnd) oAnd := by
  intro κ G H S x y v u Q W w rx ry h
  unfold oAnd at h
  split at h
  · rw [rep_int rx, rep_int ry]; exact wo_of op_and ⟨_, _, rfl, rfl, h.okR w (repI _)⟩
  · exact h.elim
theorem o_lt : Op2 X (compareOp .Lt) oLt := by
  intro κ G H S x y v u Q W w rx ry h
  unfold oLt at h
  split at h
  · rw [rep_int rx, rep_int ry]; exact wo_of op_lt ⟨_, _, rfl, rfl, h.okR w (repB _)⟩
  · exact h.elim
theorem o_le : Op2 X (compareOp .LtE) oLe := by
  intro κ G H S x y v u Q W w rx ry h
  unfold oLe at h
  split at h
  · rw [rep_int rx, rep_int ry]; exact wo_of op_le ⟨_, _, rfl, rfl, h.okR w (repB _)⟩
  · exact h.elim
theorem o_gt : Op2 X (compareOp .Gt) oGt := by
  intro κ G H S x y v u Q W w rx ry h
  unfold oGt at h
  split at h
  · rw [rep_int rx, rep_int ry]; exact wo_of op_gt ⟨_, _, rfl, rfl, h.okR w (repB _)⟩
  · exact h.elim
theorem o_ge : Op2 X (compareOp .GtE) oGe := by
  intro κ G H S x y v u Q W w rx ry h
  unfold oGe at h
  split at h
  · rw [rep_int rx, rep_int ry]; exact wo_of op_ge ⟨_, _, rfl, rfl, h.okR w (repB _)⟩
  · exact h.elim
theorem pdEq_of {x y : Val} {b : Bool} (h : pdEq x y = some b) : ∃ d e, toPD x = some d ∧ toPD y = some e ∧ SeqAt.shaped d = true ∧ SeqAt.shaped e = true ∧ PyData.eqv d e = b := by
  unfold pdEq at h
  split at h
  · split at h
    · rename_i hh
      obtain ⟨h1, h2⟩ := Bool.and_eq_true_iff.mp hh
      cases h
      exact ⟨_, _, by assumption, by assumption, h1, h2, rfl⟩
    · cases h
  · cases h
section
variable {N : List Str} {sc : Scope} {k : Nat}
theorem o_eq (c : Ctx X N sc k) : Op2 X (compareOp .Eq) oEq := by
  intro κ G H S x y v u Q W w rx ry h
  unfold oEq at h
  split at h
  · obtain ⟨d, e, h1, h2, h3, h4, h5⟩ := pdEq_of (by assumption)
    exact wo_of (op_eqD c.room.units) ⟨d, e, dp_of w.le rx h1, dp_of w.le ry h2, h3, h4, h.okR w (by rw [h5]; exact repB _)⟩
  · split at h
    · obtain ⟨a, b, e1, e2, e3⟩ := strEq_ok (by assumption)
      subst e1 e2 e3
      rw [rep_str rx, rep_str ry]
      refine wo_of op_eq ⟨rfl, h.okR w ?_⟩
      rw [show decide (V.str a = V.str b) = decide (a = b) from by rw [decide_eq_decide]; exact ⟨fun z => V.str.inj z, fun z => by rw [z]⟩]
      exact repB _
    · exact h.elim
theorem o_ne (c : Ctx X N sc k) : Op2 X (compareOp .NotEq) oNe := by
  intro κ G H S x y v u Q W w rx ry h
  unfold oNe at h
  split at h
  · obtain ⟨d, e, h1, h2, h3, h4, h5⟩ := pdEq_of (by assumption)
    exact wo_of (op_neD c.room.units) ⟨d, e, dp_of w.le rx h1, dp_of w.le ry h2, h3, h4, h.okR w (by rw [h5]; exact repB _)⟩
  · split at h
    · obtain ⟨a, b, e1, e2, e3⟩ := strEq_ok (by assumption)
      subst e1 e2 e3
      rw [rep_str rx, rep_str ry]
      refine wo_of op_ne ⟨rfl, h.okR w ?_⟩
      rw [show decide (V.str a = V.str b) = decide (a = b) from by rw [decide_eq_decide]; exact ⟨fun z => V.str.inj z, fun z => by rw [z]⟩]
      exact repB _
    · exact h.elim
end
theorem isNon_rep {K : PySem.W.Frag} {mg : Str → Option Value} {κ : List Addr} {G : Hp} {x : Val} {v : V} (h : Rep K mg κ G x v) : decide (v = .non) = isNon x := by
  cases x with
  | non => rw [rep_non h]; rfl
  | bl _ => rw [rep_bl h]; rfl
  | int _ => rw [rep_int h]; rfl
  | str _ => rw [rep_str h]; rfl
  | lst _ => obtain ⟨a, _, e, _⟩ := rep_lst h; rw [e]; rfl
  | tup _ => obtain ⟨a, _, e, _⟩ := rep_tup h; rw [e]; rfl
  | dic _ => unfold Rep at h; obtain ⟨a, _, e, _⟩ := h; rw [e]; rfl
  | obj _ _ => unfold Rep at h; obtain ⟨a, _, _, _, e, _⟩ := h; rw [e]; rfl
  | cell _ => unfold Rep at h; obtain ⟨a, _, e⟩ := h; rw [e]; rfl
  | scr _ => unfold Rep at h; obtain ⟨a, _, e, _⟩ := h; rw [e]; rfl
theorem o_isN : Op2 X (compareOp .Is) oIsN := by
  intro κ G H S x y v u Q W w rx ry h
  unfold oIsN at h
  split at h
  · rw [rep_non ry]; exact wo_of op_isN ⟨rfl, h.okR w (by rw [isNon_rep rx]; exact repB _)⟩
  · exact h.elim
theorem o_notN : Op2 X (compareOp .IsNot) oNotN := by
  intro κ G H S x y v u Q W w rx ry h
  unfold oNotN at h
  split at h
  · rw [rep_non ry]; exact wo_of op_notN ⟨rfl, h.okR w (by rw [isNon_rep rx]; exact repB _)⟩
  · exact h.elim
/-! ### in -/
theorem flatV_rep {K : PySem.W.Frag} {mg : Str → Option Value} {κ : List Addr} {G : Hp} {x : Val} {v : V} (h : Rep K mg κ G x v) (f : flatB x = true) : flatV v = true := by
  cases x with
  | non => rw [rep_non h]; rfl
  | bl _ => rw [rep_bl h]; rfl
  | int _ => rw [rep_int h]; rfl
  | str _ => rw [rep_str h]; rfl
  | _ => cases f
theorem eqV_rep {K : PySem.W.Frag} {mg : Str → Option Value} {κ : List Addr} {G : Hp} {x y : Val} {v u : V} (h : Rep K mg κ G x v) (h' : Rep K mg κ G y u) (f : flatB x = true) (f' : flatB y = true) : eqV v u = eqB x y := by
  cases x with
  | non => rw [rep_non h]; cases y with
    | non => rw [rep_non h']; rfl
    | bl _ => rw [rep_bl h']; rfl
    | int _ => rw [rep_int h']; rfl
    | str _ => rw [rep_str h']; rfl
    | _ => cases f'
  | bl _ => rw [rep_bl h]; cases y with
    | non => rw [rep_non h']; rfl
    | bl _ => rw [rep_bl h']; rfl
    | int _ => rw [rep_int h']; rfl
    | str _ => rw [rep_str h']; rfl
    | _ => cases f'
  | int _ => rw [rep_int h]; cases y with
    | non => rw [rep_non h']; rfl
    | bl _ => rw [rep_bl h']; rfl
    | int _ => rw [rep_int h']; rfl
    | str _ => rw [rep_str h']; rfl
    | _ => cases f'
  | str _ => rw [rep_str h]; cases y with
    | non => rw [rep_non h']; rfl
    | bl _ => rw [rep_bl h']; rfl
    | int _ => rw [rep_int h']; rfl
    | str _ => rw [rep_str h']; rfl
    | _ => cases f'
  | _ => cases f
theorem flats_rep {K : PySem.W.Frag} {mg : Str → Option Value} {κ : List Addr} {G : Hp} {x : Val} {v : V} (h : Rep K mg κ G x v) (f : flatB x = true) : ∀ {ys : List Val} {us : List V}, RepL K mg κ G ys us → ys.all flatB = true → us.all flatV = true ∧ inV v us = ys.any fun y => eqB y x
  | [], _, t, _ => by unfold RepL at t; subst t; exact ⟨rfl, rfl⟩
  | y :: ys, _, t, q => by
    unfold RepL at t
    obtain ⟨u, r, e, h1, h2⟩ := t
    subst e
    rw [List.all_cons] at q
    obtain ⟨q1, q2⟩ := Bool.and_eq_true_iff.mp q
    obtain ⟨i1, i2⟩ := flats_rep h f h2 q2
    refine ⟨by rw [List.all_cons, flatV_rep h1 q1, i1]; rfl, ?_⟩
    show (eqV u v || inV v r) = _
    rw [eqV_rep h1 h q1 f, i2, List.any_cons]
def oIn : Val → Val → Res Val
  | x, .lst ys => inB x ys >>= fun b => .ok (.bl b)
  | x, .tup ys => if flatB x && ys.all flatB then .ok (.bl (ys.any fun y => eqB y x)) else .stuck
  | _, _ => .stuck
def oNotIn : Val → Val → Res Val
  | x, .lst ys => inB x ys >>= fun b => .ok (.bl (!b))
  | x, .tup ys => if flatB x && ys.all flatB then .ok (.bl (!(ys.any fun y => eqB y x))) else .stuck
  | _, _ => .stuck
section
variable {N : List Str} {sc : Scope} {k : Nat}
theorem o_in (c : Ctx X N sc k) : Op2 X (compareOp .In) oIn := by
  intro κ G H S x y v u Q W w rx ry h
  unfold oIn at h
  split at h
  · rename_i ys
    obtain ⟨a, vs, e, q, t⟩ := rep_lst ry
    subst e
    unfold inB at h
    split at h
    · rename_i hh
      obtain ⟨h1, h2⟩ := Bool.and_eq_true_iff.mp hh
      obtain ⟨i1, i2⟩ := flats_rep rx h1 t h2
      exact wo_of op_in_seq ⟨a, vs, rfl, .inl (.inl (.inl (w.le _ _ q))), flatV_rep rx h1, i1, Post.okR h w (by rw [← i2]; exact repB _)⟩
    · split at h
      · rename_i b hb
        unfold pdIn at hb
        split at hb
        · rename_i d ds hd hds
          split at hb
          · rename_i hh
            obtain ⟨h1, h2⟩ := Bool.and_eq_true_iff.mp hh
            cases hb
            exact wo_of (op_inD (by have := c.room.un; omega)) ⟨d, ds, dp_of w.le rx hd, .lst (.inl (.inl (w.le _ _ q))) (dps_of w.le t hds), h1, h2, Post.okR h w (repB _)⟩
          · cases hb
        · cases hb
      · exact h.elim
  · rename_i ys
    obtain ⟨a, vs, e, q, t⟩ := rep_tup ry
    subst e
    split at h
    · rename_i hh
      obtain ⟨h1, h2⟩ := Bool.and_eq_true_iff.mp hh
      obtain ⟨i1, i2⟩ := flats_rep rx h1 t h2
      exact wo_of op_in_seq ⟨a, vs, rfl, .inr (w.le.sqT q), flatV_rep rx h1, i1, h.okR w (by rw [← i2]; exact repB _)⟩
    · exact h.elim
  · exact h.elim
theorem o_notIn (c : Ctx X N sc k) : Op2 X (compareOp .NotIn) oNotIn := by
  intro κ G H S x y v u Q W w rx ry h
  unfold oNotIn at h
  split at h
  · rename_i ys
    obtain ⟨a, vs, e, q, t⟩ := rep_lst ry
    subst e
    unfold inB at h
    split at h
    · rename_i hh
      obtain ⟨h1, h2⟩ := Bool.and_eq_true_iff.mp hh
      obtain ⟨i1, i2⟩ := flats_rep rx h1 t h2
      exact wo_of op_notIn_seq ⟨a, vs, rfl, .inl (.inl (.inl (w.le _ _ q))), flatV_rep rx h1, i1, Post.okR h w (by rw [← i2]; exact repB _)⟩
    · split at h
      · rename_i b hb
        unfold pdIn at hb
        split at hb
        · rename_i d ds hd hds
          split at hb
          · rename_i hh
            obtain ⟨h1, h2⟩ := Bool.and_eq_true_iff.mp hh
            cases hb
            exact wo_of (op_notInD (by have := c.room.un; omega)) ⟨d, ds, dp_of w.le rx hd, .lst (.inl (.inl (w.le _ _ q))) (dps_of w.le t hds), h1, h2, Post.okR h w (repB _)⟩
          · cases hb
        · cases hb
      · exact h.elim
  · rename_i ys
    obtain ⟨a, vs, e, q, t⟩ := rep_tup ry
    subst e
    split at h
    · rename_i hh
      obtain ⟨h1, h2⟩ := Bool.and_eq_true_iff.mp hh
      obtain ⟨i1, i2⟩ := flats_rep rx h1 t h2
      exact wo_of op_notIn_seq ⟨a, vs, rfl, .inr (w.le.sqT q), flatV_rep rx h1, i1, h.okR w (by rw [← i2]; exact repB _)⟩
    · exact h.elim
  · exact h.elim
end
end
end Tv

/-! built-in functions on trees -/
namespace Tv
open PySem PySem.Spec PyProof.Rows L2

/-! ### sorted ints -/
def insI (i : Int) : List Int → List Int
  | [] => [i]
  | j :: js => if i ≤ j then i :: j :: js else j :: insI i js
def sortI : List Int → List Int
  | [] => []
  | i :: is => insI i (sortI is)
theorem insI_perm (i : Int) : ∀ js, (insI i js).Perm (i :: js)
  | [] => .refl _
  | j :: js => by
    unfold insI
    split
    · exact .refl _
    · exact ((insI_perm i js).cons j).trans (List.Perm.swap i j js)
theorem sortI_perm : ∀ is, (sortI is).Perm is
  | [] => .refl _
  | i :: is => (insI_perm i _).trans ((sortI_perm is).cons i)
theorem insI_sorted (i : Int) : ∀ {js : List Int}, js.Pairwise (· ≤ ·) → (insI i js).Pairwise (· ≤ ·)
  | [], _ => List.pairwise_singleton _ _
  | j :: js, h => by
    obtain ⟨h1, h2⟩ := List.pairwise_cons.mp h
    unfold insI
    split
    · rename_i hij
      refine List.pairwise_cons.mpr ⟨fun a ha => ?_, h⟩
      rcases List.mem_cons.mp ha with e | e
      · subst e; exact hij
      · exact Int.le_trans hij (h1 a e)
    · rename_i hij
      refine List.pairwise_cons.mpr ⟨fun a ha => ?_, insI_sorted i h2⟩
      rcases List.mem_cons.mp ((insI_perm i js).mem_iff.mp ha) with e | e
      · subst e; omega
      · exact h1 a e
theorem sortI_sorted : ∀ is, (sortI is).Pairwise (· ≤ ·)
  | [] => .nil
  | i :: is => insI_sorted i (sortI_sorted is)
theorem sorted_uniq : ∀ {as bs : List Int}, as.Perm bs → as.Pairwise (· ≤ ·) → bs.Pairwise (· ≤ ·) → as = bs
  | [], bs, p, _, _ => by rw [List.nil_perm.mp p]
  | a :: as, [], p, _, _ => absurd p.symm (by simp)
  | a :: as, b :: bs, p, h, h' => by
    obtain ⟨h1, h2⟩ := List.pairwise_cons.mp h
    obtain ⟨g1, g2⟩ := List.pairwise_cons.mp h'
    have e : a = b := by
      have m1 : a ∈ b :: bs := p.mem_iff.mp (by simp)
      have m2 : b ∈ a :: as := p.mem_iff.mpr (by simp)
      rcases List.mem_cons.mp m1 with e | e
      · exact e
      · rcases List.mem_cons.mp m2 with e' | e'
        · exact e'.symm
        · have := g1 a e
          have := h1 b e'
          omega
    subst e
    rw [sorted_uniq (List.Perm.cons_inv p) h2 g2]
theorem sorted_eq {as bs : List Int} (p : as.Perm bs) (h : as.Pairwise (· ≤ ·)) : as = sortI bs := sorted_uniq (p.trans (sortI_perm bs).symm) h (sortI_sorted bs)
/-! ### greatest, least -/
def maxI : Int → List Int → Int
  | i, [] => i
  | i, j :: js => maxI (if j > i then j else i) js
def minI : Int → List Int → Int
  | i, [] => i
  | i, j :: js => minI (if j < i then j else i) js
theorem maxI_mem : ∀ (i : Int) (js : List Int), maxI i js ∈ i :: js
  | i, [] => by simp [maxI]
  | i, j :: js => by
    unfold maxI
    have := maxI_mem (if j > i then j else i) js
    rcases List.mem_cons.mp this with e | e
    · rw [e]; split <;> simp
    · simp [e]
theorem maxI_ge : ∀ (i : Int) (js : List Int), ∀ y ∈ i :: js, y ≤ maxI i js
  | i, [], y, h => by simp at h; subst h; exact Int.le_refl _
  | i, j :: js, y, h => by
    unfold maxI
    have ih := maxI_ge (if j > i then j else i) js
    have h0 := ih _ List.mem_cons_self
    have hy : ∀ z, z = i ∨ z = j → z ≤ (if j > i then j else i) := fun z hz => by split <;> (rcases hz with e | e <;> subst e <;> omega)
    rcases List.mem_cons.mp h with e | e
    · have := hy y (.inl e); omega
    · rcases List.mem_cons.mp e with e | e
      · have := hy y (.inr e); omega
      · exact ih y (List.mem_cons_of_mem _ e)
theorem minI_mem : ∀ (i : Int) (js : List Int), minI i js ∈ i :: js
  | i, [] => by simp [minI]
  | i, j :: js => by
    unfold minI
    have := minI_mem (if j < i then j else i) js
    rcases List.mem_cons.mp this with e | e
    · rw [e]; split <;> simp
    · simp [e]
theorem minI_le : ∀ (i : Int) (js : List Int), ∀ y ∈ i :: js, minI i js ≤ y
  | i, [], y, h => by simp at h; subst h; exact Int.le_refl _
  | i, j :: js, y, h => by
    unfold minI
    have ih := minI_le (if j < i then j else i) js
    have h0 := ih _ List.mem_cons_self
    have hy : ∀ z, z = i ∨ z = j → (if j < i then j else i) ≤ z := fun z hz => by split <;> (rcases hz with e | e <;> subst e <;> omega)
    rcases List.mem_cons.mp h with e | e
    · have := hy y (.inl e); omega
    · rcases List.mem_cons.mp e with e | e
      · have := hy y (.inr e); omega
      · exact ih y (List.mem_cons_of_mem _ e)

/-! ### the functions -/
def fLen : List Val → Res Val
  | [.str x] => if x.length ≤ sizeLine then .ok (.int x.length) else .stuck
  | [.lst xs] => .ok (.int xs.length)
  | [.tup xs] => .ok (.int xs.length)
  | [.scr xs] => .ok (.int xs.length)
  | [.dic xs] => .ok (.int xs.length)
  | _ => .stuck
def fAbs : List Val → Res Val
  | [.int i] => .ok (.int (if i < 0 then -i else i))
  | _ => .stuck
def fInt : List Val → Res Val
  | [.int i] => .ok (.int i)
  | [.bl b] => .ok (.int (if b then 1 else 0))
  | _ => .stuck
def fDivmod : List Val → Res Val
  | [.int i, .int j] => if 0 < j ∧ j < 1073741824 then .ok (.tup [.int (i / j), .int (i % j)]) else .stuck
  | _ => .stuck
def fSum : List Val → Res Val
  | [.lst xs] => match intsV xs with
    | some ns => .ok (.int ns.sum)
    | none => .stuck
  | _ => .stuck
def fMax : List Val → Res Val
  | [.int i, .int j] => .ok (.int (if j > i then j else i))
  | [.lst xs] => match intsV xs with
    | some (n :: ns) => .ok (.int (maxI n ns))
    | _ => .stuck
  | _ => .stuck
def fMin : List Val → Res Val
  | [.int i, .int j] => .ok (.int (if j < i then j else i))
  | [.lst xs] => match intsV xs with
    | some (n :: ns) => .ok (.int (minI n ns))
    | _ => .stuck
  | _ => .stuck
def fAll : List Val → Res Val
  | [.lst xs] => match boolsV xs with
    | some bs => .ok (.bl (bs.all id))
    | none => .stuck
  | _ => .stuck
def fAny : List Val → Res Val
  | [.lst xs] => match boolsV xs with
    | some bs => .ok (.bl (bs.any id))
    | none => .stuck
  | _ => .stuck
def fSorted : List Val → Res Val
  | [.lst xs] => match intsV xs with
    | some ns => .ok (.lst ((sortI ns).map .int))
    | none => .stuck
  | _ => .stuck
def fTuple : List Val → Res Val
  | [.lst xs] => .ok (.tup xs)
  | [.tup xs] => .ok (.tup xs)
  | _ => .stuck
def fList : List Val → Res Val
  | [.lst xs] => .ok (.lst xs)
  | [.tup xs] => .ok (.lst xs)
  | _ => .stuck
def okRepr (d : PyData) : Bool := d.showable && !d.hasDict && decide (d.depth ≤ 64) && decide (d.shown.length ≤ sizeLine)
def fRepr : List Val → Res Val
  | [.lst xs] => match toPD (.lst xs) with
    | some d => if okRepr d = true then .ok (.str d.shown) else .stuck
    | none => .stuck
  | [.tup xs] => match toPD (.tup xs) with
    | some d => if okRepr d = true then .ok (.str d.shown) else .stuck
    | none => .stuck
  | _ => .stuck

section
variable {X : Cx} {N : List Str} {sc : Scope} {k : Nat}
theorem f_len : OpN X (.builtin "len") fLen := by
  intro κ G H S xs vs Q W w r h
  unfold fLen at h
  split at h
  · obtain ⟨v, e, rv⟩ := repL1 r
    subst e
    rw [rep_str rv]
    split at h
    · exact wc_of call_len ⟨_, _, rfl, ⟨by assumption, rfl⟩, h.okR w (repI _)⟩
    · exact h.elim
  · obtain ⟨v, e, rv⟩ := repL1 r
    obtain ⟨a, us, e2, q, t⟩ := rep_lst rv
    subst e e2
    exact wc_of call_len ⟨_, _, rfl, .inl ⟨us, .inl (.inl (w.le _ _ q)), rfl⟩, h.okR w (by rw [t.length]; exact repI _)⟩
  · obtain ⟨v, e, rv⟩ := repL1 r
    obtain ⟨a, us, e2, q, t⟩ := rep_tup rv
    subst e e2
    exact wc_of call_len ⟨_, _, rfl, .inr ⟨us, w.le.sqT q, rfl⟩, h.okR w (by rw [t.length]; exact repI _)⟩
  · obtain ⟨v, e, rv⟩ := repL1 r
    obtain ⟨a, us, e2, q, t⟩ := rep_scr rv
    subst e e2
    exact wc_of call_len ⟨_, _, rfl, .inl ⟨us, w.le.sqL q, rfl⟩, h.okR w (by rw [t.length]; exact repI _)⟩
  · obtain ⟨v, e, rv⟩ := repL1 r
    unfold Rep at rv
    obtain ⟨a, ds, e2, q, t⟩ := rv
    subst e e2
    intro pins s σ us I r
    obtain ⟨u, e, ru⟩ := vals1 r
    subst e
    obtain rfl : u = Value.ref a := ru
    exact d_len I (w.le.rd q) fun tk s' I' => ⟨.int ds.length, H, I', ⟨tk, rfl⟩, h.okR w (by rw [t.length]; exact repI _)⟩
  · exact h.elim
theorem f_abs : OpN X (.builtin "abs") fAbs := by
  intro κ G H S xs vs Q W w r h
  unfold fAbs at h
  split at h
  · obtain ⟨v, e, rv⟩ := repL1 r
    rw [e, rep_int rv]
    exact wc_of call_abs ⟨_, rfl, h.okR w (repI _)⟩
  · exact h.elim
theorem f_int : OpN X (.type "int") fInt := by
  intro κ G H S xs vs Q W w r h
  unfold fInt at h
  split at h
  · obtain ⟨v, e, rv⟩ := repL1 r
    rw [e, rep_int rv]
    exact wc_of call_int1 (.inl ⟨_, rfl, h.okR w (repI _)⟩)
  · obtain ⟨v, e, rv⟩ := repL1 r
    rw [e, rep_bl rv]
    exact wc_of call_int1 (.inr ⟨_, rfl, h.okR w (repI _)⟩)
  · exact h.elim
theorem f_divmod : OpN X (.builtin "divmod") fDivmod := by
  intro κ G H S xs vs Q W w r h
  unfold fDivmod at h
  split at h
  · split at h
    · obtain ⟨v, u, e, rv, ru⟩ := repL2 r
      rw [e, rep_int rv, rep_int ru]
      exact wc_of call_divmod ⟨_, _, rfl, by assumption, fun p hp => new_tup w hp (.cons (repI _) (.cons (repI _) .nil)) h⟩
    · exact h.elim
  · exact h.elim
theorem f_sum (c : Ctx X N sc k) : OpN X (.builtin "sum") fSum := by
  intro κ G H S xs vs Q W w r h
  unfold fSum at h
  split at h
  · split at h
    · rename_i hn
      obtain ⟨v, e, rv⟩ := repL1 r
      obtain ⟨a, us, e2, q, t⟩ := rep_lst rv
      subst e e2
      have := ints_rep hn t
      subst this
      exact wc_of (cr_sum c.calm) ⟨_, _, rfl, .inl (.inl (w.le _ _ q)), h.okR w (repI _)⟩
    · exact h.elim
  · exact h.elim
theorem f_max (c : Ctx X N sc k) : OpN X (.builtin "max") fMax := by
  intro κ G H S xs vs Q W w r h
  unfold fMax at h
  split at h
  · obtain ⟨v, u, e, rv, ru⟩ := repL2 r
    rw [e, rep_int rv, rep_int ru]
    exact wc_of (call_max2 c.calm) ⟨_, _, rfl, h.okR w (repI _)⟩
  · split at h
    · rename_i n ns hn
      obtain ⟨v, e, rv⟩ := repL1 r
      obtain ⟨a, us, e2, q, t⟩ := rep_lst rv
      subst e e2
      have := ints_rep hn t
      subst this
      refine wc_of (cr_max c.calm) ⟨_, _, rfl, .inl (.inl (w.le _ _ q)), by simp, fun m hm hge => ?_⟩
      have e : m = maxI n ns := Int.le_antisymm (maxI_ge n ns m hm) (hge _ (maxI_mem n ns))
      rw [e]
      exact h.okR w (repI _)
    · exact h.elim
  · exact h.elim
theorem f_min (c : Ctx X N sc k) : OpN X (.builtin "min") fMin := by
  intro κ G H S xs vs Q W w r h
  unfold fMin at h
  split at h
  · obtain ⟨v, u, e, rv, ru⟩ := repL2 r
    rw [e, rep_int rv, rep_int ru]
    exact wc_of (call_min2 c.calm) ⟨_, _, rfl, h.okR w (repI _)⟩
  · split at h
    · rename_i n ns hn
      obtain ⟨v, e, rv⟩ := repL1 r
      obtain ⟨a, us, e2, q, t⟩ := rep_lst rv
      subst e e2
      have := ints_rep hn t
      subst this
      refine wc_of (cr_min c.calm) ⟨_, _, rfl, .inl (.inl (w.le _ _ q)), by simp, fun m hm hge => ?_⟩
      have e : m = minI n ns := Int.le_antisymm (hge _ (minI_mem n ns)) (minI_le n ns m hm)
      rw [e]
      exact h.okR w (repI _)
    · exact h.elim
  · exact h.elim
theorem f_all (c : Ctx X N sc k) : OpN X (.builtin "all") fAll := by
  intro κ G H S xs vs Q W w r h
  unfold fAll at h
  split at h
  · split at h
    · rename_i hn
      obtain ⟨v, e, rv⟩ := repL1 r
      obtain ⟨a, us, e2, q, t⟩ := rep_lst rv
      subst e e2
      have := bools_rep hn t
      subst this
      exact wc_of (cr_all c.calm) ⟨_, _, rfl, .inl (.inl (w.le _ _ q)), h.okR w (repB _)⟩
    · exact h.elim
  · exact h.elim
theorem f_any (c : Ctx X N sc k) : OpN X (.builtin "any") fAny := by
  intro κ G H S xs vs Q W w r h
  unfold fAny at h
  split at h
  · split at h
    · rename_i hn
      obtain ⟨v, e, rv⟩ := repL1 r
      obtain ⟨a, us, e2, q, t⟩ := rep_lst rv
      subst e e2
      have := bools_rep hn t
      subst this
      exact wc_of (cr_any c.calm) ⟨_, _, rfl, .inl (.inl (w.le _ _ q)), h.okR w (repB _)⟩
    · exact h.elim
  · exact h.elim
theorem f_sorted : OpN X (.builtin "sorted") fSorted := by
  intro κ G H S xs vs Q W w r h
  unfold fSorted at h
  split at h
  · split at h
    · rename_i hn
      obtain ⟨v, e, rv⟩ := repL1 r
      obtain ⟨a, us, e2, q, t⟩ := rep_lst rv
      subst e e2
      have := ints_rep hn t
      subst this
      refine wc_of cr_sortedI ⟨_, _, rfl, .inl (.inl (w.le _ _ q)), fun ns' p h1 h2 hp => ?_⟩
      rw [sorted_eq h1 h2]
      exact new_lst w hp (rep_ints _) h
    · exact h.elim
  · exact h.elim
theorem f_tuple : OpN X (.type "tuple") fTuple := by
  intro κ G H S xs vs Q W w r h
  unfold fTuple at h
  split at h
  · obtain ⟨v, e, rv⟩ := repL1 r
    obtain ⟨a, us, e2, q, t⟩ := rep_lst rv
    subst e e2
    exact wc_of call_tuple_of ⟨_, us, rfl, .inl ⟨.inl (.inl (w.le _ _ q)), fun l hl => new_tup w hl t h⟩⟩
  · obtain ⟨v, e, rv⟩ := repL1 r
    obtain ⟨a, us, e2, q, t⟩ := rep_tup rv
    subst e
    exact wc_of call_tuple_of ⟨a, us, by rw [e2], .inr ⟨w.le.sqT q, by rw [← e2]; exact h.okR w rv⟩⟩
  · exact h.elim
theorem f_list : OpN X (.type "list") fList := by
  intro κ G H S xs vs Q W w r h
  unfold fList at h
  split at h
  · obtain ⟨v, e, rv⟩ := repL1 r
    obtain ⟨a, us, e2, q, t⟩ := rep_lst rv
    subst e e2
    exact wc_of call_list_of ⟨_, us, rfl, .inl (.inl (.inl (w.le _ _ q))), fun l hl => new_lst w hl t h⟩
  · obtain ⟨v, e, rv⟩ := repL1 r
    obtain ⟨a, us, e2, q, t⟩ := rep_tup rv
    subst e e2
    exact wc_of call_list_of ⟨_, us, rfl, .inr (w.le.sqT q), fun l hl => new_lst w hl t h⟩
  · exact h.elim
theorem repr_pd (c : Ctx X N sc k) {κ : List Addr} {G H : Hp} {S : Cells} {x : Val} {v : V} {d : PyData} {Q : VK} {W : Value → Option Addr → Hp → Prop} (w : Wd X.K X.mg κ G H S) (rv : Rep X.K X.mg κ G x v) (hv : ∃ a, v = .ref a) (hd : toPD x = some d) (ho : okRepr d = true)
    (h : Post X.K X.mg true (Rep X.K X.mg) κ G H S (lift (.ok (.str d.shown)) S) Q W) : WC X (.builtin "repr") [v] H Q := by
  intro pins s σ us I r
  unfold okRepr at ho
  simp only [Bool.and_eq_true, decide_eq_true_eq, Bool.not_eq_true'] at ho
  obtain ⟨⟨⟨h1, h2⟩, h3⟩, h4⟩ := ho
  obtain ⟨u, e, ru⟩ := vals1 r
  subst e
  obtain ⟨as, rd⟩ := Dp.reads I d v u (dp_of w.le rv hd) ru
  obtain ⟨a, ea⟩ := hv
  subst ea
  obtain rfl : u = Value.ref a := ru
  refine repr_of_reads' rd h1 (PyData.noDict_hsm h2) c.gd (by have := c.room.un; omega) (fun _ _ e => e) (fun h' u tk hk => ?_) h4
  exact ⟨.str d.shown, H, I.kept hk, ⟨u, rfl⟩, h.okR w (repS _)⟩
theorem f_repr (c : Ctx X N sc k) : OpN X (.builtin "repr") fRepr := by
  intro κ G H S xs vs Q W w r h
  unfold fRepr at h
  split at h
  · split at h
    · split at h
      · obtain ⟨v, e, rv⟩ := repL1 r
        obtain ⟨a, us, e2, q, t⟩ := rep_lst rv
        subst e
        exact repr_pd c w rv ⟨a, e2⟩ (by assumption) (by assumption) h
      · exact h.elim
    · exact h.elim
  · split at h
    · split at h
      · obtain ⟨v, e, rv⟩ := repL1 r
        obtain ⟨a, us, e2, q, t⟩ := rep_tup rv
        subst e
        exact repr_pd c w rv ⟨a, e2⟩ (by assumption) (by assumption) h
      · exact h.elim
    · exact h.elim
  · exact h.elim
end
/-! ### subscripts -/
def ixV (xs : List Val) (i : Int) : Res Val := match L2.atI xs i with
  | some x => .ok x
  | none => .stuck
def oIx : Val → Val → Res Val
  | .lst xs, .int i => ixV xs i
  | .tup xs, .int i => ixV xs i
  | .scr xs, .int i => ixV xs i
  | .str x, .int i => if x.length ≤ sizeLine then match L2.atI x.cps.toList i with
    | some c => .ok (.str ⟨#[c]⟩)
    | none => .stuck else .stuck
  | _, _ => .stuck
theorem atI_rep {K : PySem.W.Frag} {mg : Str → Option Value} {κ : List Addr} {G : Hp} {xs : List Val} {vs : List V} {i : Int} {x : Val} (t : RepL K mg κ G xs vs) (h : L2.atI xs i = some x) : ∃ v, L2.atI vs i = some v ∧ Rep K mg κ G x v := by
  unfold L2.atI at h ⊢
  rw [t.length]
  cases q : L2.ixN xs.length i with
  | none => rw [q] at h; cases h
  | some j =>
    rw [q] at h
    exact t.get (i := j) h
section
variable {X : Cx} {N : List Str} {sc : Scope} {k : Nat} {E : Env} {m : Type → Type} [Mon m]
theorem ev_ix {a b : Expr} {pos : Pos} {ra rb : m Val} (hs : PlainIx b) (ha : Ev X E a ra) (hb : Ev X E b rb) : Ev X E (.Subscript a b pos) (ra >>= fun x => rb >>= fun y => Mon.of (oIx x y)) := by
  refine ev_sub ix_seq (fun κ G H S x y v u Q W w rx ry h => ?_) hs ha hb
  unfold oIx at h
  split at h
  · unfold ixV at h
    split at h
    · rename_i hq
      obtain ⟨a, vs, e, q, t⟩ := rep_lst rx
      subst e
      rw [rep_int ry]
      obtain ⟨z, hz, rz⟩ := atI_rep t hq
      exact .inl ⟨a, vs, _, z, rfl, rfl, .inl (.inl (w.le _ _ q)), hz, h.okR w rz⟩
    · exact h.elim
  · unfold ixV at h
    split at h
    · rename_i hq
      obtain ⟨a, vs, e, q, t⟩ := rep_tup rx
      subst e
      rw [rep_int ry]
      obtain ⟨z, hz, rz⟩ := atI_rep t hq
      exact .inr (.inl ⟨a, vs, _, z, rfl, rfl, w.le.sqT q, hz, h.okR w rz⟩)
    · exact h.elim
  · unfold ixV at h
    split at h
    · rename_i hq
      obtain ⟨a, vs, e, q, t⟩ := rep_scr rx
      subst e
      rw [rep_int ry]
      obtain ⟨z, hz, rz⟩ := atI_rep t hq
      exact .inl ⟨a, vs, _, z, rfl, rfl, w.le.sqL q, hz, h.okR w rz⟩
    · exact h.elim
  · split at h
    · split at h
      · rw [rep_str rx, rep_int ry]
        exact .inr (.inr ⟨_, _, _, rfl, rfl, by assumption, by assumption, h.okR w (repS _)⟩)
      · exact h.elim
    · exact h.elim
  · exact h.elim
/-! ### x = -y -/
def oNeg : Val → Res Val
  | .int i => .ok (.int (-i))
  | _ => .stuck
theorem ev_neg {a : Expr} {pos : Pos} {ra : m Val} (ha : Ev X E a ra) : Ev X E (.UnaryOp .USub a pos) (ra >>= fun x => Mon.of (oNeg x)) := by
  intro B0 S κ G σ H sat W tk Q h
  refine we_of (pe_un un_neg pe_self) ?_
  refine ha B0 S κ G σ H sat W tk _ (bindW h fun x v κ1 G1 H1 S1 e1 r1 h1 => ?_)
  have h2 := h1.ofOk
  unfold oNeg at h2
  split at h2
  · rw [rep_int r1]
    exact ⟨_, rfl, h2.okR e1.e.w (repI _)⟩
  · exact h2.elim
/-! ### isinstance(x, T), T a built-in type -/
def tyName : Val → Option String
  | .non => some "NoneType"
  | .bl _ => some "bool"
  | .int _ => some "int"
  | .str _ => some "str"
  | .tup _ => some "tuple"
  | .lst _ => some "list"
  | .dic _ => some "dict"
  | _ => none
def tyTab (T : String) : String → Option Bool := fun t => if t == T then some true else
  if t == "bool" && T == "int" then some true else if ["NoneType", "bool", "int", "str", "tuple", "list", "dict"].contains t && ["bool", "int", "str", "tuple", "list", "dict"].contains T then some false else none
def fIsB (T : String) (x : Val) : Res Val := match (tyName x).bind (tyTab T) with
  | some b => .ok (.bl b)
  | none => .stuck
theorem tyX_of {K : PySem.W.Frag} {mg : Str → Option Value} {κ : List Addr} {G H : Hp} (l : Le G H) {x : Val} {v : V} {t : String} (r : Rep K mg κ G x v) (h : tyName x = some t) : TyX K H v (.type t) := by
  cases x with
  | non => cases h; rw [rep_non r]; exact .base .non
  | bl _ => cases h; rw [rep_bl r]; exact .base (.bl _)
  | int _ => cases h; rw [rep_int r]; exact .base (.int _)
  | str _ => cases h; rw [rep_str r]; exact .base (.str _)
  | lst _ => cases h; obtain ⟨a, vs, e, q, _⟩ := rep_lst r; rw [e]; exact .base (.lst (l _ _ q))
  | tup _ =>
    cases h
    obtain ⟨a, vs, e, q, _⟩ := rep_tup r
    rw [e]
    rcases q with (q | ⟨o, q⟩) | ⟨o, its, n, q, c, _⟩
    · exact .base (.tup (l _ _ q))
    · exact .fTuple (l _ _ q)
    · exact .kTuple q c
  | dic _ =>
    cases h
    unfold Rep at r
    obtain ⟨a, vs, e, q, _⟩ := r
    rw [e]
    rcases q with q | ⟨o, q⟩
    · exact .base (.dK (l _ _ q))
    · exact .fDict (l _ _ q)
  | _ => cases h
theorem kit_tab (K : PySem.W.Frag) {t T : String} {b : Bool} (h : tyTab T t = some b) (ht : ["NoneType", "bool", "int", "str", "tuple", "list", "dict"].contains t = true) (hT : ["bool", "int", "str", "tuple", "list", "dict"].contains T = true) : PySem.W.kitOne K (.type t) (.type T) = some b := by
  simp only [List.contains_cons, List.contains_nil, Bool.or_false, Bool.or_eq_true, beq_iff_eq] at ht hT
  rcases ht with rfl | rfl | rfl | rfl | rfl | rfl | rfl <;> rcases hT with rfl | rfl | rfl | rfl | rfl | rfl <;> (have e := h; simp [tyTab] at e; subst e; kernel_rfl)
end
end Tv

/-! sorted(set(xs)), xs a list of ints -/
namespace Tv
open PySem PySem.Spec PyProof.Rows L2

section
variable {P : Program} {w : World} {A : Around} {E : Value → Shared → Prop} {s : Shared}
/-- the empty set that comes first -/
abbrev noSet (w : World) : Obj := { cls := .type "set", dict := none, data := .set #[] 0 (.fresh 0 0 (!w.params.followText "set-order")) }
/-- what is known of the set once it is filled from ns -/
def Filled (w : World) (s : Shared) (ns : List Int) (s2 : Shared) : Prop :=
  ∃ h' tk c, s2 = { s with heap := h', toks := tk } ∧ SetR w h' s.heap.objs.size (fun j => decide (j ∈ ns)) c ∧ ∀ b o, s.heap.get? b = some o → h'.get? b = some o
set_option maxHeartbeats 3200000 in
theorem set_init_list {l : Addr} {items : Array Value} (ns : List Int) (hh : A.handled = none) (hl : s.heap.IsList l items) (hit : IntsAre items.toList ns) (hb : ns.length + 1 < scanBound) :
    wpAny (model P w) A (Builtin.«set.__init__» ⟨[.ref s.heap.objs.size, .ref l], []⟩) (fun fin s2 => ∃ v, fin = .done (.ret v) ∧ v = .none ∧ Filled w s ns s2) E { s with heap := s.heap.push (noSet w) } := by
  have isz : items.size = ns.length := by
    have q := IntsAre.length hit
    rwa [Array.length_toList] at q
  have hS : (s.heap.push (noSet w)).get? s.heap.objs.size = some (noSet w) := Heap.get?_push_size _ rfl
  have hl1 : (s.heap.push (noSet w)).IsList l items := hl.at fun o e => Heap.get?_push_of_some _ e
  obtain ⟨⟨c, d, dt, sl⟩, ho, hc, n, hd⟩ := id hl1
  replace hc : c = .type "list" := hc
  replace hd : dt = .seq items n := hd
  subst hc hd
  have lS : l < s.heap.objs.size := by
    obtain ⟨o, e, _⟩ := hl
    exact Heap.lt_size e
  have hT : Shared.TypeIs { s with heap := s.heap.push (noSet w) } (.ref s.heap.objs.size) "set" := ⟨_, hS, rfl⟩
  have k1 := F.sub_list_set
  have k2 := F.sub_list_frozenset
  have k3 : (Value.type "list" == Value.type "dict") = false := by decide
  unfold Builtin.«set.__init__» noKeywords Builtin.Frozenset.updateFrom
  generalize hPI : pyIter = PI
  wp_walk
  subst hPI
  refine wpAny_pyIter_list hl1 ?_
  refine wpAny_bind (wpAny_runValue ?_)
  have zS : (s.heap.push (noSet w)).objs.size = s.heap.objs.size + 1 := Heap.size_push ..
  have lI : l ≠ (s.heap.push (noSet w)).objs.size := by rw [zS]; exact Nat.ne_of_lt (Nat.lt_succ_of_lt lS)
  have sF : s.heap.objs.size ∉ [(s.heap.push (noSet w)).objs.size, l] := by
    rw [zS]
    intro z
    rcases List.mem_cons.mp z with z | z
    · exact absurd z (Nat.ne_of_lt (Nat.lt_succ_self _))
    · exact absurd (List.mem_singleton.mp z) (Nat.ne_of_gt lS)
  have val : ∀ (i : Nat) (v : Value), items[i]? = some v → ∃ k t, ns[i]? = some k ∧ v = .int k t := fun i v hv => by
    have hi : i < ns.length := by rw [← isz]; exact (Array.getElem?_eq_some_iff.mp hv).1
    obtain ⟨t, e⟩ := PyProof.Rows.IntsAre.int_at hit i v (by rw [Array.getElem?_toList]; exact hv)
    have e2 : ns.getD i 0 = ns[i] := by rw [List.getD_eq_getElem?_getD, List.getElem?_eq_getElem hi]; rfl
    exact ⟨ns[i], t, List.getElem?_eq_getElem hi, by rw [e, e2]⟩
  refine set_update_ints ((Walks.list (by simp [hh]) _ l lI items).toS) s.heap.objs.size sF ns isz hb val (items.size - 0) 0 _ (by omega) (Nat.zero_le _) ⟨⟨_, Heap.get?_push_size _ rfl, rfl, rfl⟩, hl1.at fun o e => Heap.get?_push_of_some _ e⟩ ⟨0, Nat.le_refl 0, setR_new_at (Heap.get?_push_of_some _ hS)⟩ fun s' c mv _ hS' => ?_
  obtain ⟨h', g', d', tk', os'⟩ := s'
  have eg : g' = s.gens := mv.gens
  have ed : d' = s.drawn := mv.drawn
  have eo : os' = s.os := mv.os
  subst eg ed eo
  refine wpAny_pure (wpAny_pure ⟨_, rfl, rfl, h', tk', c, rfl, hS', fun b o e => ?_⟩)
  have b0 : b < s.heap.objs.size := Heap.lt_size e
  refine mv.heap b o (fun z => ?_) (Heap.get?_push_of_some _ (Heap.get?_push_of_some _ e))
  rcases List.mem_cons.mp z with z | z
  · exact absurd z (Nat.ne_of_lt b0)
  · have z := List.mem_singleton.mp z
    rw [zS] at z
    exact absurd z (Nat.ne_of_lt (Nat.lt_succ_of_lt b0))
/-- set(xs) -/
theorem call_set_ints {l : Addr} {items : Array Value} (ns : List Int) {Q : Value → Shared → Prop} (hh : A.handled = none) (hl : s.heap.IsList l items) (hit : IntsAre items.toList ns) (hb : ns.length + 1 < scanBound)
    (h : ∀ s2, Filled w s ns s2 → Q (.ref s.heap.objs.size) s2) : wpAny (model P w) A (call (.type "set") [.ref l]) Q E s := by
  obtain ⟨c, tl, hmro⟩ := F.called_set.mro
  have hmade := F.called_set.made
  have hsub := F.called_set.sub
  refine wpAny_call (codeAny_of_tree ?_)
  show wpAny _ _ (callAny (.type "set") _) _ _ _
  refine wpAny_pure ⟨Code.quiet_builtin _ (by decide +kernel), codeAny_builtin F.entry_type_call ?_⟩
  rw [Around.under_plain (weight_type_call_type "set" [.ref l] []) rfl]
  have h1 := F.called_set.notType
  have h2 := F.called_set.canCreate
  have hct := F.typeCall_set_1 (.ref l)
  repeat (any_goals (first | assumption | wp_step))
  refine codeAny_mono (code_set_led1 (w := w) (.ref l) (E := E) (Q₁ := fun obj s₁ => obj = .ref s.heap.objs.size ∧ s₁ = { s with heap := s.heap.push (noSet w) }) ⟨rfl, rfl⟩) fun r s₁ hr => ?_
  cases r with
  | error e => exact hr
  | ok fl =>
    cases fl with
    | ret obj =>
      obtain ⟨rfl, rfl⟩ := hr
      have hS : (s.heap.push (noSet w)).get? s.heap.objs.size = some (noSet w) := Heap.get?_push_size _ rfl
      have hT : Shared.TypeIs { s with heap := s.heap.push (noSet w) } (.ref s.heap.objs.size) "set" := ⟨_, hS, rfl⟩
      have hli := F.called_set.init.lookup
      have hbi := F.called_set.init.bind (.ref s.heap.objs.size)
      repeat (any_goals (first | assumption | wp_step))
      refine codeAny_mono (codeAny_call_builtin (R := wants (fun r s2 => r = .none ∧ Filled w s ns s2) E) F.called_set.init.plain F.entry_set_init (check_set_init_1 hT ?_)) fun r2 s2 hr2 => ?_
      · refine wpAny_mono (set_init_list (P := P) (w := w) (s := s) (E := E) ns (by simp [hh]) hl hit hb) (fun fin s2 hf => ?_) fun e s2 hf => hf
        obtain ⟨v, e, e2, fl⟩ := hf
        subst e
        exact ⟨e2, fl⟩
      · cases r2 with
        | error e => exact hr2
        | ok f2 =>
          cases f2 with
          | ret r =>
            obtain ⟨rfl, fl⟩ := hr2
            repeat (any_goals (first | assumption | wp_step))
            exact h _ fl
          | next => exact hr2.elim
          | brk => exact hr2.elim
          | cont => exact hr2.elim
    | next => exact hr.elim
    | brk => exact hr.elim
    | cont => exact hr.elim
end
end Tv

/-! isinstance, chains, stars, slices -/
namespace Tv
open PySem PySem.Spec PyProof.Rows L2

/-! ### t[::-1], t a tuple -/
section
variable {prog : Program} {w : World} {A : Around} {E : Value → Shared → Prop} {s : Shared}
theorem revPick (xs : Array Value) : ((List.range xs.size).filterMap fun (k : Nat) => xs[(((xs.size : Int) - 1) + (k : Int) * (-1)).toNat]?).toArray = xs.toList.reverse.toArray := by
  congr 1
  apply List.ext_getElem?
  intro i
  have e : (fun (k : Nat) => xs[(((xs.size : Int) - 1) + (k : Int) * (-1)).toNat]?) = fun k => xs[xs.size - 1 - k]? := by
    funext k
    have : (((xs.size : Int) - 1) + (k : Int) * (-1)).toNat = xs.size - 1 - k := by omega
    rw [this]
  rw [e]
  have e2 : (List.range xs.size).filterMap (fun k => xs[xs.size - 1 - k]?) = ((List.range xs.size).map fun k => xs.size - 1 - k).filterMap (xs[·]?) := by
    rw [List.filterMap_map]
    rfl
  rw [e2, PySem.W.krv_range, List.filterMap_reverse, PySem.W.krv_all]
theorem sliceApplied_rev {sl : Addr} {n : Nat} {u : Tok} {Q : Int × Int × Nat → Shared → Prop} (hs : s.heap.IsSliceOf sl .none .none (.int (-1) u))
    (h : Q ((n : Int) - 1, -1, n) s) : wpAny (model prog w) A (Builtin.Slice.sliceApplied (.ref sl) (pure (n : Int))) Q E s := by
  obtain ⟨os, hos, hcs, hds⟩ := id hs
  unfold Builtin.Slice.sliceApplied Builtin.Slice.sliceFields
  refine wpAny_bind (wpAny_bind (wpAny_field hos hds (x := .none) rfl (wpAny_bind (wpAny_field hos hds (x := .none) rfl (wpAny_bind (wpAny_field hos hds (x := .int (-1) u) rfl (wpAny_pure ?_)))))))
  refine wpAny_bind (slicePart_int ?_)
  show wpAny _ _ (if ((-1 : Int) == 0) = true then _ else _) _ _ s
  rw [if_neg (by decide)]
  refine wpAny_bind (slicePart_none (wpAny_bind (slicePart_none (wpAny_bind (wpAny_pure ?_)))))
  refine wpAny_pure ?_
  have e : Builtin.Slice.slicePlaces ((n : Int) - 1) (-1) (-1) = n := by
    unfold Builtin.Slice.slicePlaces
    rw [if_neg (by decide)]
    by_cases z : (n : Int) - 1 > -1
    · rw [if_pos z, show (-(-1) : Int) = 1 from rfl, Int.ediv_one]
      omega
    · rw [if_neg z]
      omega
  have e2 : Builtin.Slice.sliceAdjust none none (-1) (n : Int) = ((n : Int) - 1, -1) := rfl
  show Q ((Builtin.Slice.sliceAdjust none none (-1) (n : Int)).1, -1, Builtin.Slice.slicePlaces (Builtin.Slice.sliceAdjust none none (-1) (n : Int)).1 (Builtin.Slice.sliceAdjust none none (-1) (n : Int)).2 (-1)) s
  rw [e2]
  show Q ((n : Int) - 1, -1, Builtin.Slice.slicePlaces ((n : Int) - 1) (-1) (-1)) s
  rw [e]
  exact h
theorem getItem_tuple_rev {t sl : Addr} {items : Array Value} {u : Tok} {Q : Value → Shared → Prop} (ht : IsTup s.heap t items) (hs : s.heap.IsSliceOf sl .none .none (.int (-1) u))
    (h : Q (.ref s.heap.objs.size) { s with heap := s.heap.push { cls := .type "tuple", data := .seq items.toList.reverse.toArray } }) (hsz : items.size ≤ sizeLine) : wpAny (model prog w) A (getItem (.ref t) (.ref sl)) Q E s := by
  have htake : sizeOk (.seq items.toList.reverse.toArray) := by
    show items.toList.reverse.toArray.size ≤ sizeLine
    rw [List.size_toArray, List.length_reverse, Array.length_toList]
    exact hsz
  obtain ⟨os, hos, hcs, hds⟩ := id hs
  have hTs : s.TypeIs (.ref sl) "slice" := ⟨os, hos, hcs⟩
  unfold getItem
  try with_reducible refine wpAny_holding ?_
  first | refine wpAny_bind (wpAny_pure ?_) | skip
  refine wpAny_bind (wpAny_sequenceKey ht.typeIs (by decide) ?_)
  refine wpAny_bind (wpAny_callSpecial?_slot (name := Str.ofString "__getitem__") ht.typeIs PyProof.Rows.slot_tuple_getitem
    (wpAny_call_entry PyProof.Rows.slot_tuple_getitem ht.typeIs entry_tuple_getitem ?_ (args_tuple_getitem _ _)))
  show wpAny _ _ (Builtin.Tuple.tupleItemsOf (.ref t) >>= _) _ _ s
  refine wpAny_bind (tupleItemsOf_ ht ?_)
  refine wpAny_bind (wpAny_typeOf hTs ?_)
  rw [if_pos (by decide)]
  refine wpAny_bind (sliceApplied_rev hs ?_)
  have hno : ¬ ((((items.size : Int) - 1) == 0 && (-1 : Int) == 1 && items.size == items.size) = true) := by
    intro q
    rw [Bool.and_eq_true, Bool.and_eq_true] at q
    exact absurd q.1.2 (by decide)
  show wpAny _ _ (if (((items.size : Int) - 1) == 0 && (-1 : Int) == 1 && items.size == items.size) = true then _ else _) _ _ s
  rw [if_neg hno, revPick]
  first
    | exact wpAny_bind (m := Builtin.Tuple.tupleExact _) (wpAny_newObj_type (wpAny_pure ⟨_, rfl, wpAny_pure h⟩) htake)
    | exact wpAny_bind (m := Builtin.Tuple.tupleExact _) (wpAny_newObj_type (wpAny_bind (wpAny_pure (wpAny_pure ⟨_, rfl, wpAny_pure h⟩))) htake)
    | exact wpAny_bind (wpAny_bind (m := Builtin.Tuple.tupleExact _) (wpAny_newObj_type (wpAny_pure (wpAny_pure ⟨_, rfl, wpAny_pure h⟩)) htake))
    | exact wpAny_bind (wpAny_bind (m := Builtin.Tuple.tupleExact _) (wpAny_newObj_type (wpAny_pure ⟨_, rfl, wpAny_pure h⟩) htake))
end
section
variable {X : Cx} {N : List Str} {sc : Scope} {k : Nat} {E : Env} {m : Type → Type} [Mon m]
def oRev : Val → Res Val
  | .lst xs => .ok (.lst xs.reverse)
  | .tup xs => .ok (.tup xs.reverse)
  | _ => .stuck
theorem ev_rev {e : Expr} {kk} {p1 p2 p3 pos : Pos} {r : m Val} (h : Ev X E e r) : Ev X E (.Subscript e (.Slice none none (some (.UnaryOp .USub (.Constant (.int 1) kk p1) p2)) p3) pos) (r >>= fun x => Mon.of (oRev x)) := by
  intro B0 S κ G σ H sat W tk Q q
  refine ⟨fun pins s I => ?_⟩
  refine Subscript_ (thn ((h B0 S κ G σ H sat W tk _ (bindP (R := Rep X.K X.mg) q)).run pins s I) fun u s1 ⟨v, H1, I1, r1, x, κ1, G1, S1, e1, rx, h1⟩ => ?_)
  have h2 := h1.ofOk
  have hst : PO X (some (.UnaryOp .USub (.Constant (.int 1) kk p1) p2)) (tPart (tUn (rU fun i => .int (-i)) (tC (.int 1)))) := po_some (pe_un un_neg pe_int)
  refine wpAny_Slice (thn (po_none.run pins s1 σ H1 (fun o H2 => o = none ∧ H2 = H1) I1 ⟨rfl, rfl⟩) fun vl s2 ⟨l, H2, I2, pl, el, e2⟩ => ?_)
  subst el e2
  refine thn (po_none.run pins s2 σ H2 (fun o H3 => o = none ∧ H3 = H2) I2 ⟨rfl, rfl⟩) fun vu s3 ⟨u, H3, I3, pu, eu, e3⟩ => ?_
  subst eu e3
  refine thn (hst.run pins s3 σ H3 (fun o H4 => o = some (-1) ∧ H4 = H3) I3 ⟨1, rfl, -1, rfl, rfl, rfl⟩) fun vs s4 ⟨o, H4, I4, ps, eo, e4⟩ => ?_
  subst eo e4
  have I5 : L2.Inv X pins σ H4 { s4 with heap := s4.heap.push { cls := .type "slice", data := .fields #[vl, vu, vs] } } := I4.kept (t' := s4.toks) fun b ob q => Heap.get?_push_of_some _ q
  cases x with
  | lst xs =>
    obtain ⟨a, us, ev, hq, t⟩ := rep_lst rx
    subst ev
    cases r1
    obtain ⟨its, r, ht, hz⟩ := I5.list (.inl (.inl (e1.e.w.le _ _ hq)))
    refine tail_any (ops := [.ref a, .ref s4.heap.objs.size]) ht.isList.typeIs (PySem.slot_list_getitem.lookup) ?_ (by with_unfolding_all rfl)
    refine wpAny_getItem_list_slice ht.isList (Heap.IsSliceOf.new _ vl vu vs) pl pu ps (by decide) ?_ (by rw [List.size_toArray]; have := r.length; omega)
    rw [PySem.W.krv_pick]
    refine ⟨.ref _, _, I5.laid (t' := s4.toks) (o := .lst us.reverse) (fun b ob q => Heap.get?_push_of_some _ q) (Nat.le_refl _) ?_, rfl, new_lst e1.e.w (I5.hok.fresh (Nat.le_refl _)) t.reverse h2⟩
    exact ⟨by rw [List.length_reverse]; exact hz, _, 0, r.reverse, Heap.get?_push_size _ rfl⟩
  | tup xs =>
    obtain ⟨a, us, ev, hq, t⟩ := rep_tup rx
    subst ev
    cases r1
    obtain ⟨its, r, ht, hz⟩ := I5.tuple (e1.e.w.le.sqT hq)
    refine tail_any (ops := [.ref a, .ref s4.heap.objs.size]) ht.typeIs (PyProof.Rows.slot_tuple_getitem.lookup) ?_ (by with_unfolding_all rfl)
    cases pl
    cases pu
    cases ps
    refine getItem_tuple_rev ht (Heap.IsSliceOf.new _ _ _ _) ?_ (by rw [List.size_toArray, ← r.length]; exact hz)
    refine ⟨.ref _, _, I5.laid (t' := s4.toks) (o := .tup us.reverse) (fun b ob q => Heap.get?_push_of_some _ q) (Nat.le_refl _) ?_, rfl, new_tup e1.e.w (I5.hok.fresh (Nat.le_refl _)) t.reverse h2⟩
    exact ⟨by rw [List.length_reverse]; exact hz, _, r.reverse, IsTup.new _ _⟩
  | _ => exact h2.elim
/-! ### isinstance(e, T), T a built-in type -/
theorem ev_isB (c : Ctx X N sc k) {a : Expr} {x : Str} {T : String} {p p2 pos : Pos} {r : m Val} (hg : glB sc "isinstance" = true) (hm : X.mg "isinstance" = none) (hgT : glB sc x = true) (hmT : X.mg x = none) (hv : bootBuiltins x = some (.type T)) (hT : ["bool", "int", "str", "tuple", "list", "dict"].contains T = true)
    (h : Ev X E a r) (hs : notStar a = true := by rfl) : Ev X E (.Call (.Name "isinstance" p) [a, .Name x p2] [] pos) (r >>= fun x => Mon.of (fIsB T x)) := by
  intro B0 S κ G σ H sat W tk Q q
  obtain ⟨g1, g2, g3⟩ := c.gl hg
  obtain ⟨t1, t2, t3⟩ := c.gl hgT
  have pT : PE X (.Name x p2) (tC (.ty T)) := pe_bltn t1 hmT hv rfl t3 t2
  refine we_of (pe_callB call_isi g1 hm PyProof.Rows.boot_isinstance (pa_cons pe_self (pa_cons pT pa_nil rfl) (star_of hs _ _)) (hn := g3) (hdb := g2) (he := star_of hs _ X.env) (hpl := plain_of (es := [.Name x p2]) rfl pos X.env)) ?_
  refine h B0 S κ G σ H sat W tk _ (bindW q fun x v κ1 G1 H1 S1 e1 r1 h1 => ?_)
  have h2 := h1.ofOk
  unfold fIsB at h2
  split at h2
  · rename_i b hb
    cases ht : tyName x with
    | none => rw [ht] at hb; cases hb
    | some t =>
      rw [ht] at hb
      have ty := tyX_of e1.e.w.le r1 ht
      refine ⟨v, .ty T, .type t, .type T, b, rfl, .ty T, ty, kit_tab X.K hb ?_ hT, h2.okR e1.e.w (repB _)⟩
      cases x <;> first | (cases ht; decide) | cases ht
  · exact h2.elim
/-! ### a op b op c -/
theorem ev_chain {op op' : CmpOp} {g g' : Val → Val → Res Val} {a b d : Expr} {pos : Pos} {ra rb rd : m Val} (hg : Op2 X (compareOp op) g) (hg' : Op2 X (compareOp op') g') (ha : Ev X E a ra) (hb : Ev X E b rb) (hd : Ev X E d rd) (hm : lastMarks [op, op'] [b, d] = false := by rfl) :
    Ev X E (.Compare a [op, op'] [b, d] pos) (ra >>= fun x => rb >>= fun y => Mon.of (g x y >>= vBl) >>= fun t => if t = true then rd >>= fun z => Mon.of (g' y z) else Pure.pure (.bl false)) := by
  intro B0 S κ G σ H sat W tk Q h
  refine we_of (pe_chain op_self op_self pe_self pe_self pe_self hm) ?_
  refine ha B0 S κ G σ H sat W tk _ (bindW h fun x v κ1 G1 H1 S1 e1 r1 h1 => ?_)
  have sat1 := sat.ext e1.weak
  refine hb B0 S1 κ1 G1 σ H1 sat1 W tk _ (bindW h1 fun y u κ2 G2 H2 S2 e2 r2 h2 => ?_)
  have sat2 := sat1.ext e2.weak
  have h3 := bindP (R := RB) h2
  refine hg κ2 G2 H2 S2 x y v u _ _ e2.e.w (r1.mono e2.e.pre e2.e.le) r2 (bindW (m := Res) h3.ofOk fun z w κ3 G3 H3 S3 e3 r3 h4 => ?_)
  cases z with
  | bl t =>
    rw [rep_bl r3]
    obtain ⟨t', κ4, G4, S4, e4, et, h5⟩ := h4 κ3 G3 H3 t (ExtB.refl e3.e.w) rfl
    subst et
    refine ⟨t', rfl, ?_⟩
    have sat4 := sat2.ext e4.weak
    cases t' with
    | true =>
      rw [if_pos rfl] at h5 ⊢
      exact hd B0 S4 κ4 G4 σ H3 sat4 W tk _ (bindW h5 fun z' w' κ5 G5 H5 S5 e5 r5 h6 =>
        hg' κ5 G5 H5 S5 y z' u w' Q _ e5.e.w ((r2.mono e4.e.pre e4.e.le).mono e5.e.pre e5.e.le) r5 h6.ofOk)
    | false =>
      rw [if_neg Bool.false_ne_true] at h5 ⊢
      exact Post.pure (m := m) h5 e4.e.w (repB _)
  | _ => exact h4.elim
/-- a chain as a test -/
theorem et_chain {op op' : CmpOp} {g g' : Val → Val → Res Val} {a b d : Expr} {pos : Pos} {ra rb rd : m Val} (hg : Op2 X (compareOp op) g) (hg' : Op2 X (compareOp op') g') (ha : Ev X E a ra) (hb : Ev X E b rb) (hd : Ev X E d rd) (hm : lastMarks [op, op'] [b, d] = false := by rfl) :
    Et X E (.Compare a [op, op'] [b, d] pos) (ra >>= fun x => rb >>= fun y => Mon.of (g x y >>= vBl) >>= fun t => if t = true then rd >>= fun z => Mon.of (g' y z >>= vBl) else Pure.pure false) := by
  intro B0 S κ G σ H sat W tk Q h
  refine wt_of (pt_chain op_self op_self pe_self pe_self pe_self hm) ?_
  refine ha B0 S κ G σ H sat W tk _ (bindW h fun x v κ1 G1 H1 S1 e1 r1 h1 => ?_)
  have sat1 := sat.ext e1.weak
  refine hb B0 S1 κ1 G1 σ H1 sat1 W tk _ (bindW h1 fun y u κ2 G2 H2 S2 e2 r2 h2 => ?_)
  have sat2 := sat1.ext e2.weak
  have h3 := bindP (R := RB) h2
  refine hg κ2 G2 H2 S2 x y v u _ _ e2.e.w (r1.mono e2.e.pre e2.e.le) r2 (bindW (m := Res) h3.ofOk fun z w κ3 G3 H3 S3 e3 r3 h4 => ?_)
  cases z with
  | bl t =>
    rw [rep_bl r3]
    obtain ⟨t', κ4, G4, S4, e4, et, h5⟩ := h4 κ3 G3 H3 t (ExtB.refl e3.e.w) rfl
    subst et
    refine ⟨t', rfl, ?_⟩
    have sat4 := sat2.ext e4.weak
    cases t' with
    | true =>
      rw [if_pos rfl] at h5 ⊢
      exact hd B0 S4 κ4 G4 σ H3 sat4 W tk _ (bindW h5 fun z' w' κ5 G5 H5 S5 e5 r5 h6 =>
        hg' κ5 G5 H5 S5 y z' u w' _ _ e5.e.w ((r2.mono e4.e.pre e4.e.le).mono e5.e.pre e5.e.le) r5 (bindW (m := Res) h6.ofOk fun z2 w2 κ6 G6 H6 S6 e6 r6 h7 => by
          cases z2 with
          | bl t2 => rw [rep_bl r6]; exact ⟨t2, rfl, h7 κ6 G6 H6 t2 (ExtB.refl e6.e.w) rfl⟩
          | _ => exact h7.elim))
    | false =>
      rw [if_neg Bool.false_ne_true] at h5 ⊢
      exact ⟨false, rfl, Post.pure (m := m) h5 e4.e.w rfl⟩
  | _ => exact h4.elim
/-! ### (*xs, y) -/
theorem ea_star {e : Expr} {es : List Expr} {p : Pos} {r : m Val} {rs : m (List Val)} (h : Ev X E e r) (ht : Ea X E es rs) : Ea X E (.Starred e p :: es) (r >>= fun x => Mon.of (vSeq x) >>= fun xs => rs >>= fun ys => Pure.pure (xs ++ ys)) := by
  intro B0 S κ G σ H sat W tk Q q
  refine wa_of (StX.pa_star pe_self pa_self) ?_
  refine h B0 S κ G σ H sat W tk _ (bindW q fun x v κ1 G1 H1 S1 e1 r1 h1 => ?_)
  have sat1 := sat.ext e1.weak
  rcases vSeq_cases x with ⟨xs, hx⟩ | hx
  · rw [hx] at h1
    have h2 := bindP (R := fun _ _ a b => a = b) h1
    rw [Mon.run_of] at h2
    obtain ⟨xs', κ2, G2, S2, e2, et, h3⟩ := h2 κ1 G1 H1 xs (ExtB.refl e1.e.w) rfl
    subst et
    obtain ⟨b, a, vs, ev, hq, t⟩ := rep_seq (r1.mono e2.e.pre e2.e.le) hx
    subst ev
    refine ⟨a, vs, rfl, ?_, ?_⟩
    · have := hq H1 e2.e.w.le
      cases b
      · exact .inr this
      · exact .inl this
    · refine ht B0 S2 κ2 G2 σ H1 (sat1.ext e2.weak) W tk _ (bindW h3 fun ys us κ3 G3 H3 S3 e3 r3 h4 => ?_)
      exact Post.pure (m := m) h4 e3.e.w ((t.mono e3.e.pre e3.e.le).append r3)
  · rw [hx] at h1
    have h2 := bindP (R := fun _ _ a b => a = b) (γ := List Val) h1
    rw [Mon.run_of] at h2
    exact h2.elim
/-! ### a[lo:hi] -/
def cutA {α : Type} (xs : List α) (lo hi : Option Int) : List α := (xs.drop (HT.sIx xs.length 0 lo)).take (HT.sIx xs.length xs.length hi - HT.sIx xs.length 0 lo)
def oSl : Val → Option Int → Option Int → Res Val
  | .lst xs, lo, hi => .ok (.lst (cutA xs lo hi))
  | .tup xs, lo, hi => .ok (.tup (cutA xs lo hi))
  | .scr xs, lo, hi => .ok (.lst (cutA xs lo hi))
  | .str x, lo, hi => if x.length ≤ sizeLine then .ok (.str (cutS x lo hi)) else .stuck
  | _, _, _ => .stuck
/-- an end of a slice -/
def Ep (X : Cx) (E : Env) (e : Option Expr) (r : m (Option Int)) : Prop :=
  ∀ B0 S κ G σ H, Sat X.K X.mg false B0 E S κ G σ H → ∀ W : WX, Takes X W → ∀ Q : Option Int → Hp → Prop, Post X.K X.mg (Mon.pu m) (fun _ _ a b => a = b) κ G H S (Mon.run r S) Q (fun c d H' => W c d σ H') → ∃ t, PO X e t ∧ t σ H Q
def asInt : Val → Res (Option Int)
  | .int i => .ok (some i)
  | _ => .stuck
theorem ep_none : Ep X E none (Pure.pure none : m (Option Int)) := fun B0 S κ G σ H sat W tk Q q => ⟨_, po_none, Post.pure (m := m) q sat.w rfl⟩
theorem ep_some {e : Expr} {r : m Val} (h : Ev X E e r) : Ep X E (some e) (r >>= fun x => Mon.of (asInt x)) := fun B0 S κ G σ H sat W tk Q q => ⟨_, po_some pe_self, h B0 S κ G σ H sat W tk _ (bindW q fun x v κ1 G1 H1 S1 e1 r1 h1 => by
  have h2 := h1.ofOk
  cases x with
  | int i => exact ⟨i, rep_int r1, h2 κ1 G1 H1 (some i) (ExtB.refl e1.e.w) rfl⟩
  | _ => exact h2.elim)⟩
theorem sl_all3 : SlR X (fun x lo hi H Q => rSlL X.K x lo hi H Q ∨ rSlA X.K x lo hi H Q ∨ rSlS x lo hi H Q) := sl_list.or (sl_tupA.or sl_str)
theorem cutA_rep {K : PySem.W.Frag} {mg : Str → Option Value} {κ : List Addr} {G : Hp} {xs : List Val} {vs : List V} {lo hi : Option Int} (t : RepL K mg κ G xs vs) : RepL K mg κ G (cutA xs lo hi) (cutV vs lo hi) := by
  unfold cutA cutV
  rw [t.length]
  exact (t.drop _).take _
theorem ev_slice {e : Expr} {lo hi : Option Expr} {p2 pos : Pos} {r : m Val} {rl rh : m (Option Int)} (h : Ev X E e r) (hl : Ep X E lo rl) (hh : Ep X E hi rh) :
    Ev X E (.Subscript e (.Slice lo hi none p2) pos) (r >>= fun x => rl >>= fun l => rh >>= fun u => Mon.of (oSl x l u)) := by
  intro B0 S κ G σ H sat W tk Q q
  refine ⟨fun pins s I => ?_⟩
  refine Subscript_ (thn ((h B0 S κ G σ H sat W tk _ (bindP (R := Rep X.K X.mg) q)).run pins s I) fun u s1 ⟨v, H1, I1, r1, x, κ1, G1, S1, e1, rx, h1⟩ => ?_)
  have sat1 := sat.ext e1.weak
  obtain ⟨tl, pl, q1⟩ := hl B0 S1 κ1 G1 σ H1 sat1 W tk _ (bindP (R := fun _ _ a b => a = b) h1)
  refine wpAny_Slice (thn (pl.run pins s1 σ H1 _ I1 q1) fun vl s2 ⟨l, H2, I2, pl, l', κ2, G2, S2, e2, el, h2⟩ => ?_)
  subst el
  have sat2 := sat1.ext e2.weak
  obtain ⟨th, ph, q2⟩ := hh B0 S2 κ2 G2 σ H2 sat2 W tk _ (bindP (R := fun _ _ a b => a = b) h2)
  refine thn (ph.run pins s2 σ H2 _ I2 q2) fun vu s3 ⟨w, H3, I3, pu, w', κ3, G3, S3, e3, ew, h3⟩ => ?_
  subst ew
  rw [evalPart_none]
  refine wpAny_pure ?_
  have h4 := h3.ofOk
  have wd := e3.e.w
  have rx3 := (rx.mono e2.e.pre e2.e.le).mono e3.e.pre e3.e.le
  have I4 : L2.Inv X pins σ H3 { s3 with heap := s3.heap.push { cls := .type "slice", data := .fields #[vl, vu, .none] } } := I3.kept (t' := s3.toks) fun b ob q => Heap.get?_push_of_some _ q
  obtain ⟨T, id, hT, ht, hg⟩ := sl_all3 pins { s3 with heap := s3.heap.push { cls := .type "slice", data := .fields #[vl, vu, .none] } } σ H3 v u vl vu l' w' s3.heap.objs.size Q I4 r1 (Heap.IsSliceOf.new ..) pl pu (by
    cases x with
    | lst xs =>
      obtain ⟨a, vs, ev, hq, t⟩ := rep_lst rx3
      exact .inl ⟨a, vs, ev, .inl (.inl (wd.le _ _ hq)), fun p hp => new_lst wd hp (cutA_rep t) h4⟩
    | tup xs =>
      obtain ⟨a, vs, ev, hq, t⟩ := rep_tup rx3
      refine .inr (.inl ⟨a, vs, ev, wd.le.sqT hq, fun hw => ?_, fun hw p hp => new_tup wd hp (cutA_rep t) h4⟩)
      refine h4.okR wd ?_
      unfold Rep
      refine ⟨a, vs, rfl, hq, ?_⟩
      have := cutA_rep (lo := l') (hi := w') t
      have e5 : cutV vs l' w' = vs := by
        unfold cutV
        rw [hw.1, hw.2]
        simp
      rw [e5] at this
      exact this
    | scr xs =>
      obtain ⟨a, vs, ev, hq, t⟩ := rep_scr rx3
      exact .inl ⟨a, vs, ev, wd.le.sqL hq, fun p hp => new_lst wd hp (cutA_rep t) h4⟩
    | str z =>
      have h4 : Post X.K X.mg true (Rep X.K X.mg) κ3 G3 H3 S3 (lift (if z.length ≤ sizeLine then .ok (.str (cutS z l' w')) else .stuck) S3) Q _ := h4
      split at h4
      · exact .inr (.inr ⟨z, rep_str rx3, by assumption, h4.okR wd (repS _)⟩)
      · exact h4.elim
    | _ => exact h4.elim)
  exact tail_any (ops := [.ref s3.heap.objs.size, u]) ht hT hg (by with_unfolding_all rfl)
end
end Tv

/-! cells, owned lists: statements -/
namespace Tv
open PySem PySem.Spec PyProof.Rows L2

section
variable {K : PySem.W.Frag} {mg : Str → Option Value} {b : Bool} {B0 : Bs} {κ : List Addr} {G H : Hp} {S : Cells} {E : Env} {σ : L2.St}
theorem CRep.keep {a x : Addr} {o : HO} (ha : x ≠ a) : ∀ {c : Val}, CRep K mg κ G H x c → CRep K mg κ G (L2.upd H a o) x c
  | .lst xs, q => by obtain ⟨vs, e, r⟩ := q; exact ⟨vs, by rw [upd_ne ha]; exact e, r⟩
  | .obj C fs, q => by obtain ⟨Ca, dx, vs, e0, e, r⟩ := q; exact ⟨Ca, dx, vs, e0, by rw [upd_ne ha]; exact e, r⟩
  | .dic xs, q => by obtain ⟨vs, e, r⟩ := q; exact ⟨vs, by rw [upd_ne ha]; exact e, r⟩
  | .non, q => q.elim
  | .bl _, q => q.elim
  | .int _, q => q.elim
  | .str _, q => q.elim
  | .tup _, q => q.elim
  | .cell _, q => q.elim
  | .scr _, q => q.elim
/-- a cell's content is changed -/
theorem Wd.cellset (w : Wd K mg κ G H S) {n : Nat} {a : Addr} {c : Val} {o : HO} (hk : κ[n]? = some a) (hc : CRep K mg κ G (L2.upd H a o) a c) : ExtB K mg false κ G H S κ G (L2.upd H a o) (S.set n c) := by
  have am : a ∈ κ := List.mem_of_getElem? hk
  refine ⟨⟨Pre.refl _, Le.refl _, fun x u h nx => ?_, fun _ _ h => h, fun x h nx => absurd h nx, ⟨fun x u h => ?_, w.nd, w.ap, by rw [List.length_set]; exact w.len, fun j x v h1 h2 => ?_⟩⟩, fun z => nomatch z⟩
  · rw [upd_ne (show x ≠ a from fun e => nx (e ▸ am))]; exact h
  · rw [upd_ne (show x ≠ a from fun e => by rw [e, w.ap a am] at h; cases h)]; exact w.le x u h
  · by_cases e : n = j
    · subst e
      rw [hk] at h1
      cases h1
      have hl : n < S.length := by
        have := (List.getElem?_eq_some_iff.mp hk).1
        rw [w.len] at this; exact this
      rw [List.getElem?_set_self hl] at h2
      cases h2
      exact hc
    · rw [List.getElem?_set_ne e] at h2
      have ne : x ≠ a := fun z => by
        subst z
        have l1 := (List.getElem?_eq_some_iff.mp h1)
        have l2 := (List.getElem?_eq_some_iff.mp hk)
        obtain ⟨p1, q1⟩ := l1
        obtain ⟨p2, q2⟩ := l2
        exact e ((List.getElem_inj w.nd).mp (q2.trans q1.symm))
      exact (w.cel j x v h1 h2).keep ne
theorem Wd.celL (w : Wd K mg κ G H S) {n : Nat} {a : Addr} {xs : List Val} (hk : κ[n]? = some a) (hS : S[n]? = some (.lst xs)) : ∃ vs, H a = some (.lst vs) ∧ RepL K mg κ G xs vs := w.cel n a _ hk hS
theorem rep_cell {n : Nat} {v : V} (h : Rep K mg κ G (.cell n) v) : ∃ a, κ[n]? = some a ∧ v = .ref a := by unfold Rep at h; exact h
/-- a new cell -/
theorem Wd.cellnew (w : Wd K mg κ G H S) {p : Addr} {c : Val} {o : HO} (hp : H p = none) (hc : CRep K mg κ G (L2.upd H p o) p c) : ExtB K mg false κ G H S (κ ++ [p]) G (L2.upd H p o) (S ++ [c]) := by
  have gp : G p = none := by
    cases e : G p with
    | none => rfl
    | some u => rw [w.le p u e] at hp; cases hp
  have np : p ∉ κ := fun m => w.there m hp
  have pre : Pre κ (κ ++ [p]) := fun n x h => by rw [List.getElem?_append_left (List.getElem?_eq_some_iff.mp h).1]; exact h
  refine ⟨⟨pre, Le.refl _, fun x u h nx => ?_, fun _ _ h => h, fun x h nx => ?_, ⟨fun x u h => ?_, ?_, fun x h => ?_, by simp [w.len], fun j x v h1 h2 => ?_⟩⟩, fun z => nomatch z⟩
  · rw [upd_ne (show x ≠ p from fun e => by rw [e, hp] at h; cases h)]; exact h
  · rcases List.mem_append.mp h with h | h
    · exact absurd h nx
    · rw [List.mem_singleton.mp h]; exact hp
  · rw [upd_ne (show x ≠ p from fun e => by rw [e, gp] at h; cases h)]; exact w.le x u h
  · refine List.nodup_append.mpr ⟨w.nd, List.pairwise_singleton _ _, fun x hx y hy e => ?_⟩
    rw [List.mem_singleton.mp hy] at e
    exact np (e ▸ hx)
  · rcases List.mem_append.mp h with h | h
    · exact w.ap x h
    · rw [List.mem_singleton.mp h]; exact gp
  · have mono : ∀ {c : Val} {x : Addr}, CRep K mg κ G (L2.upd H p o) x c → CRep K mg (κ ++ [p]) G (L2.upd H p o) x c := fun {c x} q => by
      cases c with
      | lst xs => obtain ⟨vs, e, r⟩ := q; exact ⟨vs, e, r.mono pre (Le.refl _)⟩
      | obj C fs => obtain ⟨Ca, dx, vs, e0, e, r⟩ := q; exact ⟨Ca, dx, vs, e0, e, r.mono pre (Le.refl _)⟩
      | dic xs => obtain ⟨vs, e, r⟩ := q; exact ⟨vs, e, r.mono pre (Le.refl _)⟩
      | _ => exact q.elim
    by_cases hj : j < κ.length
    · rw [List.getElem?_append_left hj] at h1
      rw [List.getElem?_append_left (by rw [← w.len]; exact hj)] at h2
      have xp : x ≠ p := fun e => np (e ▸ List.mem_of_getElem? h1)
      exact mono ((w.cel j x v h1 h2).keep xp)
    · have : j = κ.length := by
        have := (List.getElem?_eq_some_iff.mp h1).1
        simp at this
        omega
      subst this
      rw [List.getElem?_append_right (Nat.le_refl _)] at h1
      rw [List.getElem?_append_right (by rw [w.len]; exact Nat.le_refl _)] at h2
      simp at h1
      rw [w.len] at h2
      simp at h2
      subst h1 h2
      exact mono hc
end

/-! ### cells read and written -/
def cellOf : Val → Option Nat
  | .cell n => some n
  | _ => none
def cellL (S : Cells) (n : Nat) : Option (List Val) := match S[n]? with
  | some (.lst xs) => some xs
  | _ => none
def asI : Val → Option Int
  | .int i => some i
  | _ => none
def ixM (x i : Val) : M Val := fun S => match cellOf x with
  | some n => match cellL S n, asI i with
    | some xs, some j => (ixV xs j, S)
    | _, _ => (.stuck, S)
  | none => (oIx x i, S)
def setM (x i v : Val) : M Unit := fun S => match cellOf x with
  | some n => match cellL S n, asI i with
    | some xs, some k => match L2.ixN xs.length k with
      | some j => (.ok (), S.set n (.lst (xs.set j v)))
      | none => (.stuck, S)
    | _, _ => (.stuck, S)
  | none => (.stuck, S)
theorem cellOf_some {x : Val} {n : Nat} (h : cellOf x = some n) : x = .cell n := by cases x <;> first | (cases h; rfl) | cases h
theorem cellL_some {S : Cells} {n : Nat} {xs : List Val} (h : cellL S n = some xs) : S[n]? = some (.lst xs) := by
  unfold cellL at h
  split at h
  · cases h; assumption
  · cases h
theorem asI_some {x : Val} {n : Int} (h : asI x = some n) : x = .int n := by cases x <;> first | (cases h; rfl) | cases h
theorem setM_cases (x i v : Val) (S : Cells) : setM x i v S = (.stuck, S) ∨ ∃ n xs k j, x = .cell n ∧ S[n]? = some (.lst xs) ∧ i = .int k ∧ L2.ixN xs.length k = some j ∧ setM x i v S = (.ok (), S.set n (.lst (xs.set j v))) := by
  unfold setM
  split
  · rename_i n hn
    split
    · rename_i xs k hx hk
      split
      · rename_i j hj
        exact .inr ⟨n, xs, k, j, cellOf_some hn, cellL_some hx, asI_some hk, hj, rfl⟩
      · exact .inl rfl
    · exact .inl rfl
  · exact .inl rfl
theorem ixM_cases (x i : Val) (S : Cells) : ixM x i S = (.stuck, S) ∨ (∃ n xs k z, x = .cell n ∧ S[n]? = some (.lst xs) ∧ i = .int k ∧ L2.atI xs k = some z ∧ ixM x i S = (.ok z, S)) ∨ ixM x i S = lift (oIx x i) S := by
  unfold ixM
  split
  · rename_i n hn
    split
    · rename_i xs k hx hk
      unfold ixV
      split
      · exact .inr (.inl ⟨n, xs, k, _, cellOf_some hn, cellL_some hx, asI_some hk, by assumption, rfl⟩)
      · exact .inl rfl
    · exact .inl rfl
  · exact .inr (.inr rfl)
section
variable {X : Cx} {N : List Str} {sc : Scope} {k : Nat} {E : Env}
theorem post_nocell {α γ : Type} {K : PySem.W.Frag} {mg : Str → Option Value} {p : Bool} {R : List Addr → Hp → α → γ → Prop} {κ : List Addr} {G H : Hp} {S : Cells} {Q : γ → Hp → Prop} {W : Value → Option Addr → Hp → Prop} : ¬ Post K mg p R κ G H S (.stuck, S) Q W := fun h => h
theorem ev_ixM {a b : Expr} {pos : Pos} {ra rb : M Val} (hs : PlainIx b) (ha : Ev X E a ra) (hb : Ev X E b rb) : Ev X E (.Subscript a b pos) (ra >>= fun x => rb >>= fun y => ixM x y) := by
  intro B0 S κ G σ H sat W tk Q h
  refine we_of (pe_ix ix_seq pe_self pe_self hs) ?_
  refine ha B0 S κ G σ H sat W tk _ (bindW h fun x v κ1 G1 H1 S1 e1 r1 h1 => ?_)
  refine hb B0 S1 κ1 G1 σ H1 (sat.ext e1.weak) W tk _ (bindW h1 fun y u κ2 G2 H2 S2 e2 r2 h2 => ?_)
  have r1' := r1.mono e2.e.pre e2.e.le
  have w := e2.e.w
  replace h2 : Post X.K X.mg false (Rep X.K X.mg) κ2 G2 H2 S2 (ixM x y S2) Q (fun c d H' => W c d σ H') := h2
  have plain : ∀ z, z = oIx x y → Post X.K X.mg false (Rep X.K X.mg) κ2 G2 H2 S2 (lift z S2) Q (fun c d H' => W c d σ H') → (rIx X.K) v u H2 Q := fun z hz hp => by
    subst hz
    have h : Post X.K X.mg true (Rep X.K X.mg) κ2 G2 H2 S2 (lift (oIx x y) S2) Q (fun c d H' => W c d σ H') := Post.ofOk (m := M) hp
    unfold oIx at h
    split at h
    · unfold ixV at h
      split at h
      · rename_i hq
        obtain ⟨a, vs, e, q, t⟩ := rep_lst r1'
        subst e
        rw [rep_int r2]
        obtain ⟨z, hz, rz⟩ := atI_rep t hq
        exact .inl ⟨a, vs, _, z, rfl, rfl, .inl (.inl (w.le _ _ q)), hz, h.okR w rz⟩
      · exact h.elim
    · unfold ixV at h
      split at h
      · rename_i hq
        obtain ⟨a, vs, e, q, t⟩ := rep_tup r1'
        subst e
        rw [rep_int r2]
        obtain ⟨z, hz, rz⟩ := atI_rep t hq
        exact .inr (.inl ⟨a, vs, _, z, rfl, rfl, w.le.sqT q, hz, h.okR w rz⟩)
      · exact h.elim
    · unfold ixV at h
      split at h
      · rename_i hq
        obtain ⟨a, vs, e, q, t⟩ := rep_scr r1'
        subst e
        rw [rep_int r2]
        obtain ⟨z, hz, rz⟩ := atI_rep t hq
        exact .inl ⟨a, vs, _, z, rfl, rfl, w.le.sqL q, hz, h.okR w rz⟩
      · exact h.elim
    · split at h
      · split at h
        · rw [rep_str r1', rep_int r2]
          exact .inr (.inr ⟨_, _, _, rfl, rfl, by assumption, by assumption, h.okR w (repS _)⟩)
        · exact h.elim
      · exact h.elim
    · exact h.elim
  rcases ixM_cases x y S2 with e | ⟨n, xs, k, z, ex, hS, ey, hz, e⟩ | e
  · rw [e] at h2; exact h2.elim
  · rw [e] at h2
    subst ex ey
    obtain ⟨a, hk, ev⟩ := rep_cell r1'
    obtain ⟨vs, hH, t⟩ := w.celL hk hS
    subst ev
    rw [rep_int r2]
    obtain ⟨zv, hzv, rz⟩ := atI_rep t hz
    exact .inl ⟨a, vs, _, zv, rfl, rfl, .inl (.inl hH), hzv, h2 κ2 G2 H2 zv (ExtB.refl w) rz⟩
  · rw [e] at h2
    exact plain _ rfl h2
/-- what o[i] = v comes to -/
theorem set_cell {κ : List Addr} {G H : Hp} {S : Cells} {ρ : Type} {f : Unit → M ρ} {enc : ρ → Out} {B0 : Bs} {D : Ends} {W : WX} {σ : L2.St} {x i v : Val} {xv iv vv : V} (sat : Sat X.K X.mg false B0 E S κ G σ H) (rx : Rep X.K X.mg κ G x xv) (ri : Rep X.K X.mg κ G i iv) (rv : Rep X.K X.mg κ G v vv)
    (h : PostS X.K X.mg false B0 (M.bind (setM x i v) f S) enc D W) {Q : Hp → Prop} (hQ : ∀ H' S', Sat X.K X.mg false B0 E S' κ G σ H' → PostS X.K X.mg false B0 (f () S') enc D W → Q H') : rSetL xv iv vv H Q := by
  unfold M.bind at h
  rcases setM_cases x i v S with e | ⟨n, xs, k, j, ex, hS, ei, hj, e⟩
  · rw [e] at h; exact h.elim
  · rw [e] at h
    subst ex ei
    obtain ⟨a, hk, ev⟩ := rep_cell rx
    obtain ⟨vs, hH, t⟩ := sat.w.celL hk hS
    subst ev
    rw [rep_int ri]
    have x := sat.w.cellset (c := .lst (xs.set j v)) (o := .lst (vs.set j vv)) hk ⟨_, upd_same, t.set j rv⟩
    exact ⟨a, vs, k, j, rfl, rfl, hH, by rw [t.length]; exact hj, hQ _ _ (sat.ext x) h⟩
theorem sx_setC {ρ : Type} {enc : ρ → Out} {rest : List Stmt} {Ks : List (List Stmt)} {o i e : Expr} {ps pos : Pos} {re ro ri : M Val} {r : M ρ} (he : Ev X E e re) (ho : Ev X E o ro) (hi : Ev X E i ri) (hr : Sx X E rest Ks r enc)
    (hs : swapsWithSole [.Subscript o i ps] e pos.line X.env = pure false) (hw : swappedStores [.Subscript o i ps] e X.env = pure none) (h1 : (assignEach [.Subscript o i ps] X.env).map (·.2) = [assign (.Subscript o i ps) X.env])
    (hg : ∀ v, assign (.Subscript o i ps) X.env v = (do
      let ov ← holding [v] (eval o X.env)
      let iv ← holding [v, ov] (eval i X.env)
      standAt ps
      holding [v, ov, iv] (setItem ov iv v)
      release [v, ov, iv] [])) :
    Sx X E (.Assign [.Subscript o i ps] e pos :: rest) Ks (re >>= fun v => ro >>= fun x => ri >>= fun j => setM x j v >>= fun _ => r) enc := by
  intro B0 S κ G σ H sat W tk D q
  refine wss_of (pss_cons (ps_asg pe_self (pg_sub pe_self pe_self set_list hg) hs hw h1) (pss_self (e := rest))) ?_
  refine he B0 S κ G σ H sat W tk _ (bindS sat q fun v vv κ1 G1 H1 S1 sat1 r1 h1 x1 => ?_)
  refine ho B0 S1 κ1 G1 σ H1 sat1 W tk _ (bindS sat1 h1 fun x xv κ2 G2 H2 S2 sat2 r2 h2 x2 => ?_)
  refine hi B0 S2 κ2 G2 σ H2 sat2 W tk _ (bindS sat2 h2 fun j jv κ3 G3 H3 S3 sat3 r3 h3 x3 => ?_)
  exact set_cell sat3 (r2.mono x3.e.pre x3.e.le) r3 ((r1.mono x2.e.pre x2.e.le).mono x3.e.pre x3.e.le) h3 fun H' S' sat' h' => hr B0 S' κ3 G3 σ H' sat' W tk D h'
end
end Tv

/-! owned lists, targets, augmented assignment -/
namespace Tv
open PySem PySem.Spec PyProof.Rows L2

/-- a fresh list has come -/
def PostN (K : PySem.W.Frag) (mg : Str → Option Value) (p : Bool) (κ : List Addr) (G H : Hp) (S : Cells) (r : Res (List Val) × Cells) (Q : VK) (W : Value → Option Addr → Hp → Prop) : Prop :=
  match r with
  | (.ok xs, S') => ∀ κ' G' H' a vs, ExtB K mg p κ G H S κ' G' H' S' → H a = none → H' a = some (.lst vs) → G' a = none → a ∉ κ' → RepL K mg κ' G' xs vs → Q (.ref a) H'
  | (.exn c fs, S') => ∀ κ' G' H' cls d, ExtB K mg p κ G H S κ' G' H' S' → ERep K mg κ' G' c fs cls d → W cls d H'
  | (.stuck, _) => False
section
variable {X : Cx} {N : List Str} {sc : Scope} {k : Nat} {E : Env} {m : Type → Type} [Mon m] {ρ : Type} {enc : ρ → Out} {rest : List Stmt} {Ks : List (List Stmt)}
/-- the expression makes a new list -/
def Eo (X : Cx) (E : Env) (e : Expr) (r : m (List Val)) : Prop :=
  ∀ B0 S κ G σ H, Sat X.K X.mg false B0 E S κ G σ H → ∀ W : WX, Takes X W → ∀ Q : VK, PostN X.K X.mg (Mon.pu m) κ G H S (Mon.run r S) Q (fun c d H' => W c d σ H') → WE X e σ H Q
theorem freshG {K : PySem.W.Frag} {mg : Str → Option Value} {κ : List Addr} {G H : Hp} {S : Cells} (w : Wd K mg κ G H S) {p : Addr} (hp : H p = none) : G p = none ∧ p ∉ κ := by
  refine ⟨?_, fun m => w.there m hp⟩
  cases e : G p with
  | none => rfl
  | some u => rw [w.le p u e] at hp; cases hp
theorem ExtB.fresh {K : PySem.W.Frag} {mg : Str → Option Value} {p : Bool} {κ κ1 : List Addr} {G G1 H H1 : Hp} {S S1 : Cells} (x : ExtB K mg p κ G H S κ1 G1 H1 S1) {a : Addr} (h : H1 a = none) : H a = none := by
  cases e : H a with
  | none => rfl
  | some o =>
    by_cases m : a ∈ κ
    · exact absurd h (x.e.w.there (x.e.pre.mem m))
    · rw [x.e.keep a o e m] at h; cases h
theorem eo_lst {es : List Expr} {pos : Pos} {rs : m (List Val)} (h : Ea X E es rs) : Eo X E (.List es pos) (rs >>= fun xs => Mon.of (if xs.length ≤ sizeLine then .ok xs else .stuck)) := by
  intro B0 S κ G σ H sat W tk Q q
  refine we_of (pe_lst pa_self) ?_
  have q2 : Post X.K X.mg (Mon.pu m) (RepL X.K X.mg) κ G H S (Mon.run rs S) (fun vs H1 => ∃ xs κ1 G1 S1, ExtB X.K X.mg (Mon.pu m) κ G H S κ1 G1 H1 S1 ∧ RepL X.K X.mg κ1 G1 xs vs ∧ PostN X.K X.mg (Mon.pu m) κ G H S (Mon.run (m := m) (Mon.of (if xs.length ≤ sizeLine then .ok xs else .stuck)) S1) Q (fun c d H' => W c d σ H')) (fun c d H' => W c d σ H') := by
    rw [Mon.run_bind] at q
    have q : PostN X.K X.mg (Mon.pu m) κ G H S (M.bind (Mon.run rs) (fun xs => Mon.run (m := m) (Mon.of (if xs.length ≤ sizeLine then .ok xs else .stuck))) S) Q (fun c d H' => W c d σ H') := q
    unfold M.bind at q
    cases e : Mon.run rs S with
    | mk r S1 =>
      rw [e] at q
      cases r with
      | ok xs => exact fun κ1 G1 H1 vs x r => ⟨xs, κ1, G1, S1, x, r, q⟩
      | exn c fs => exact q
      | stuck => exact q
  refine h B0 S κ G σ H sat W tk _ (q2.mono fun vs H1 ⟨xs, κ1, G1, S1, x, r, h1⟩ => ?_)
  rw [Mon.run_of] at h1
  split at h1
  · refine ⟨by rw [r.length]; assumption, fun p hp => ?_⟩
    obtain ⟨gp, kp⟩ := freshG x.e.w hp
    have wd := x.e.w.own (o := .lst vs) gp kp
    refine h1 κ1 G1 _ p vs ⟨⟨x.e.pre, x.e.le, fun c u hc n => ?_, x.e.newG, x.e.newC, wd⟩, fun z => ?_⟩ (x.fresh hp) upd_same gp kp r
    · have := x.e.keep c u hc n
      rw [upd_ne (show c ≠ p from fun e => by rw [e, hp] at this; cases this)]; exact this
    · obtain ⟨p1, p2, p3⟩ := x.p z
      exact ⟨p1, p2, fun c u hc => by
        have := p3 c u hc
        rw [upd_ne (show c ≠ p from fun e => by rw [e, hp] at this; cases this)]; exact this⟩
  · exact h1.elim
theorem eo_nil {pos : Pos} : Eo X E (.List [] pos) (Pure.pure [] : m (List Val)) := by
  have h := eo_lst (X := X) (E := E) (m := m) (pos := pos) (es := []) (rs := Pure.pure []) ea_nil
  intro B0 S κ G σ H sat W tk Q q
  refine h B0 S κ G σ H sat W tk Q ?_
  rw [Mon.run_bind, Mon.run_pure]
  rw [Mon.run_pure] at q
  show PostN _ _ _ _ _ _ _ (Mon.run (m := m) (Mon.of (.ok [])) S) _ _
  rw [Mon.run_of]
  exact q
/-- a fresh list is frozen at once -/
theorem ev_eo {e : Expr} {r : m (List Val)} (h : Eo X E e r) : Ev X E e (r >>= fun xs => Pure.pure (.lst xs)) := by
  intro B0 S κ G σ H sat W tk Q q
  refine h B0 S κ G σ H sat W tk Q ?_
  rw [Mon.run_bind] at q
  have q : Post X.K X.mg (Mon.pu m) (Rep X.K X.mg) κ G H S (M.bind (Mon.run r) (fun xs => Mon.run (m := m) (Pure.pure (.lst xs))) S) Q (fun c d H' => W c d σ H') := q
  unfold M.bind at q
  cases e : Mon.run r S with
  | mk r S1 =>
    rw [e] at q
    cases r with
    | ok xs =>
      have q : Post X.K X.mg (Mon.pu m) (Rep X.K X.mg) κ G H S (Mon.run (m := m) (Pure.pure (.lst xs)) S1) Q (fun c d H' => W c d σ H') := q
      rw [Mon.run_pure] at q
      intro κ1 G1 H1 a vs x h0 h1 g1 k1 rl
      have xs' : ExtS X.K X.mg (Mon.pu m) ⟨κ, G, H, S, κ, G⟩ κ1 G1 H1 S1 := ⟨x, x.e.pre, x.e.le⟩
      obtain ⟨xf, lf⟩ := xs'.freeze h0 g1 k1 h1
      refine q κ1 _ H1 (.ref a) xf.x ?_
      unfold Rep
      exact ⟨a, vs, rfl, upd_same, rl.mono (Pre.refl _) lf⟩
    | exn c fs => exact q
    | stuck => exact q
/-- a slot takes a fresh list -/
theorem Sat.takeO {K : PySem.W.Frag} {mg : Str → Option Value} {p : Bool} {B0 : Bs} {κ κ1 : List Addr} {G G1 H H1 : Hp} {S S1 : Cells} {σ : L2.St} {a : Addr} {xs : List Val} {vs : List V} {i : Nat} (sat : Sat K mg p B0 E S κ G σ H) (x : ExtB K mg p κ G H S κ1 G1 H1 S1) (h0 : H a = none) (h1 : H1 a = some (.lst vs)) (g1 : G1 a = none) (k1 : a ∉ κ1)
    (rl : RepL K mg κ1 G1 xs vs) (hi : i < E.length) : Sat K mg p B0 (E.set i (.o1 xs)) S1 κ1 G1 (σ.set i (some (.ref a))) H1 := by
  have b0 : B0.H a = none := sat.1.x.fresh h0
  obtain ⟨x0, L, so, nd, q⟩ := sat
  have e := x.e
  have so1 := so.mono (κ1 := κ1) (G1 := G1) (H1 := H1) e.pre e.le fun a m => by
    obtain ⟨_, _, n, t⟩ := q a m
    cases z : H a with
    | none => exact absurd z t
    | some o => exact e.keep a o z n
  have q1 : ∀ a ∈ L, B0.H a = none ∧ G1 a = none ∧ a ∉ κ1 ∧ H1 a ≠ none := fun a m => by
    obtain ⟨q1, q2, q3, q4⟩ := q a m
    refine ⟨q1, e.newG a q4 q2, fun z => q4 (e.newC a z q3), fun z => ?_⟩
    cases y : H a with
    | none => exact q4 y
    | some o => rw [e.keep a o y q3] at z; cases z
  have al : a ∉ L := fun m => (q a m).2.2.2 h0
  obtain ⟨L2, s2, n2, m2⟩ := so1.set (i := i) (s := .o1 xs) (ov := some (.ref a)) (L1 := [a]) hi ⟨a, vs, rfl, rfl, h1, rl⟩
  refine ⟨x0.trans x, L2, s2, n2 (fun c m => by rw [List.mem_singleton.mp m]; exact al) (List.pairwise_singleton _ _) nd, fun c m => ?_⟩
  rcases m2 c m with m | m
  · exact q1 c m
  · rw [List.mem_singleton.mp m]
    exact ⟨b0, g1, k1, by rw [h1]; exact fun z => nomatch z⟩
/-- .. ahead of the slots -/
theorem Sat.pushO {K : PySem.W.Frag} {mg : Str → Option Value} {p : Bool} {B0 : Bs} {κ κ1 : List Addr} {G G1 H H1 : Hp} {S S1 : Cells} {σ : L2.St} {a : Addr} {xs : List Val} {vs : List V} (sat : Sat K mg p B0 E S κ G σ H) (x : ExtB K mg p κ G H S κ1 G1 H1 S1) (h0 : H a = none) (h1 : H1 a = some (.lst vs)) (g1 : G1 a = none) (k1 : a ∉ κ1)
    (rl : RepL K mg κ1 G1 xs vs) : Sat K mg p B0 (.o1 xs :: E) S1 κ1 G1 (some (.ref a) :: σ) H1 := by
  have b0 : B0.H a = none := sat.1.x.fresh h0
  obtain ⟨x0, L, so, nd, q⟩ := sat
  have e := x.e
  have so1 := so.mono (κ1 := κ1) (G1 := G1) (H1 := H1) e.pre e.le fun a m => by
    obtain ⟨_, _, n, t⟩ := q a m
    cases z : H a with
    | none => exact absurd z t
    | some o => exact e.keep a o z n
  have q1 : ∀ a ∈ L, B0.H a = none ∧ G1 a = none ∧ a ∉ κ1 ∧ H1 a ≠ none := fun a m => by
    obtain ⟨q1, q2, q3, q4⟩ := q a m
    refine ⟨q1, e.newG a q4 q2, fun z => q4 (e.newC a z q3), fun z => ?_⟩
    cases y : H a with
    | none => exact q4 y
    | some o => rw [e.keep a o y q3] at z; cases z
  have al : a ∉ L := fun m => (q a m).2.2.2 h0
  refine ⟨x0.trans x, a :: L, ⟨_, σ, [a], L, rfl, rfl, ⟨a, vs, rfl, rfl, h1, rl⟩, so1⟩, List.nodup_cons.mpr ⟨al, nd⟩, fun c m => ?_⟩
  rcases List.mem_cons.mp m with m | m
  · rw [m]; exact ⟨b0, g1, k1, by rw [h1]; exact fun z => nomatch z⟩
  · exact q1 c m
/-- from ahead of the slots to its place -/
theorem Sat.place {K : PySem.W.Frag} {mg : Str → Option Value} {p : Bool} {B0 : Bs} {κ : List Addr} {G H : Hp} {S : Cells} {σ : L2.St} {s : Slot} {ov : Option V} {i : Nat} (sat : Sat K mg p B0 (s :: E) S κ G (ov :: σ) H) (hi : i < E.length) : Sat K mg p B0 (E.set i s) S κ G (σ.set i ov) H := by
  obtain ⟨x, L, ⟨ov', r, L1, Lr, e1, e2, h1, h2⟩, nd, q⟩ := sat
  cases e1
  subst e2
  obtain ⟨n1, n2, n3⟩ := List.nodup_append.mp nd
  obtain ⟨L2, s2, nn2, m2⟩ := h2.set (i := i) (s := s) (ov := ov) (L1 := L1) hi h1
  refine ⟨x, L2, s2, nn2 (fun c m m' => n3 c m c m' rfl) n1 n2, fun c m => ?_⟩
  rcases m2 c m with m | m
  · exact q c (by simp [m])
  · exact q c (by simp [m])
/-- what a fresh list ahead of a block is for -/
theorem bindN {B0 : Bs} {S : Cells} {κ : List Addr} {G H : Hp} {σ : L2.St} {x : m (List Val)} {f : List Val → m ρ} {D : Ends} {W : WX} {Q : VK} (sat : Sat X.K X.mg (Mon.pu m) B0 E S κ G σ H) (h : PostS X.K X.mg (Mon.pu m) B0 (Mon.run (x >>= f) S) enc D W)
    (q : ∀ xs a vs κ1 G1 H1 S1, ExtB X.K X.mg (Mon.pu m) κ G H S κ1 G1 H1 S1 → H a = none → H1 a = some (.lst vs) → G1 a = none → a ∉ κ1 → RepL X.K X.mg κ1 G1 xs vs → PostS X.K X.mg (Mon.pu m) B0 (Mon.run (f xs) S1) enc D W → Q (.ref a) H1) :
    PostN X.K X.mg (Mon.pu m) κ G H S (Mon.run x S) Q (fun c d H' => W c d σ H') := by
  rw [Mon.run_bind] at h
  have h : PostS X.K X.mg (Mon.pu m) B0 (M.bind (Mon.run x) (fun a => Mon.run (f a)) S) enc D W := h
  unfold M.bind at h
  cases e : Mon.run x S with
  | mk r S' =>
    rw [e] at h
    cases r with
    | ok a => exact fun κ' G' H' p vs x h0 h1 g k r' => q a p vs κ' G' H' S' x h0 h1 g k r' h
    | exn c fs => exact fun κ' G' H' cls d x r' => h κ' G' σ H' cls d (sat.1.trans x) r'
    | stuck => exact h
/-- x = a new list -/
theorem sx_own (c : CtxF X N sc k) (i : Nat) {x : Str} {e : Expr} {p pos : Pos} {r : m (List Val)} {f : List Val → m ρ} (hl : Lk N sc i x) (hi : i < E.length) (h : Eo X E e r) (hr : ∀ xs, Sx X (E.set i (.o1 xs)) rest Ks (f xs) enc) (hc : notComp e = true := by rfl) :
    Sx X E (.Assign [.Name x p] e pos :: rest) Ks (r >>= f) enc := by
  intro B0 S κ G σ H sat W tk D q
  obtain ⟨h1, h2⟩ := hl.n
  refine wss_of (pss_cons (ps_set (i := i) (by rw [c.n]; exact c.nd) (by rw [c.n]; exact h1) (by rw [c.sc]; exact h2) pe_self (swaps_of hc _ _ _) (.inl (c.fn _))) (pss_self (e := rest))) ?_
  refine h B0 S κ G σ H sat.weak W tk _ (bindN sat q fun xs a vs κ1 G1 H1 S1 x h0 h1 g1 k1 rl hp => ?_)
  exact hr xs B0 S1 κ1 G1 _ H1 (sat.takeO x h0 h1 g1 k1 rl hi) W tk D hp
/-- an owned list is changed no more -/
theorem sx_freeze (i : Nat) {ss : List Stmt} {r : m ρ} {xs : List Val} (he : E[i]? = some (.o1 xs)) (h : Sx X (E.set i (.fz (.lst xs))) ss Ks r enc) : Sx X E ss Ks r enc := by
  intro B0 S κ G σ H sat W tk D q
  obtain ⟨G', s1⟩ := sat.freeze1 he
  exact h B0 S κ G' σ H s1 W tk D q
def roomL (xs : List Val) : Res Unit := if xs.length < sizeLine then .ok () else .stuck
/-- x.append(e) -/
theorem sx_app (c : Ctx X N sc k) (i : Nat) {x : Str} {e : Expr} {p ap cp pos : Pos} {xs : List Val} {r : m Val} {f : Val → m ρ} (hn : Nm N sc i x) (he : E[i]? = some (.o1 xs)) (h : Ev X E e r) (hr : ∀ v, Sx X (E.set i (.o1 (xs ++ [v]))) rest Ks (f v) enc)
    (hs : notStar e = true := by rfl) (hl : (ap.endLine == cp.line) = true := by rfl) :
    Sx X E (.Expr (.Call (.Attribute (.Name x p) "append" ap) [e] [] cp) pos :: rest) Ks (r >>= fun v => Mon.of (roomL xs) >>= fun _ => f v) enc := by
  intro B0 S κ G σ H sat W tk D q
  refine wss_of (pss_cons (ps_expr (pe_bm PySem.F.plainAttrs_list PySem.F.slot_list_append PySem.F.type_list_append mt_append (c.pv hn) pa_self (hbase := rfl) (hfew := by rw [star_of hs]; rfl) (hline := hl) (hs := star_of hs _ _) (hplain := rfl)) rfl) (pss_self (e := rest))) ?_
  obtain ⟨a0, vs0, hσ, hH, rl, _⟩ := sat.setO1 (ys := xs) he
  refine ⟨.ref a0, hσ, .inl ⟨rfl, vs0, .inl (.inl hH)⟩, ?_⟩
  have ha : Ea X E [e] (r >>= fun v => (Pure.pure [] : m (List Val)) >>= fun ys => Pure.pure (v :: ys)) := ea_cons h ea_nil hs
  refine wa_of (pa_cons pe_self pa_nil (star_of hs _ _)) ?_
  refine h B0 S κ G σ H sat.weak W tk _ (bindS sat q fun v vv κ1 G1 H1 S1 sat1 r1 h1 x1 => ?_)
  obtain ⟨a, vs, hσ1, hH1, rl1, put⟩ := sat1.setO1 (ys := xs ++ [v]) he
  rw [hσ] at hσ1
  cases hσ1
  rw [Mon.run_bind, Mon.run_of] at h1
  have h2 : PostS X.K X.mg (Mon.pu m) B0 (M.bind (lift (roomL xs)) (fun a => Mon.run (f v)) S1) enc D W := h1
  unfold M.bind lift roomL at h2
  split at h2
  · rename_i u S2 hu
    split at hu
    · cases hu
      refine ⟨a0, vs, vv, rfl, rfl, hH1, by rw [rl1.length]; assumption, ?_⟩
      exact hr v B0 S1 κ1 G1 σ _ (put _ (rl1.append (.cons r1 .nil))) W tk D h2
    · cases hu
  · rename_i hu
    split at hu <;> cases hu
  · exact h2.elim
/-- x op= e, x a frozen value -/
def ipOf (f : Int → Int → Int) : Val → Val → Res Val
  | .int i, .int j => .ok (.int (f i j))
  | _, _ => .stuck
theorem sx_augI (c : CtxF X N sc k) (i : Nat) {x : Str} {e : Expr} {op : Operator} {fi : Int → Int → Int} {p pos : Pos} {v : Val} {r : m Val} {f : Val → m ρ} (hop : PIp X op (ipI fi)) (hn : Lk N sc i x) (he : E[i]? = some (.fz v)) (hi : i < E.length) (h : Ev X E e r) (hr : ∀ z, Sx X (E.set i (.fz z)) rest Ks (f z) enc) :
    Sx X E (.AugAssign (.Name x p) op e pos :: rest) Ks (r >>= fun y => Mon.of (ipOf fi v y) >>= f) enc := by
  intro B0 S κ G σ H sat W tk D q
  obtain ⟨h1, h2⟩ := hn.n
  refine wss_of (pss_cons (ps_aug (by rw [c.n]; exact c.nd) (by rw [c.n]; exact h1) (by rw [c.sc]; exact h2) pe_self hop (.inl (c.fn _))) (pss_self (e := rest))) ?_
  obtain ⟨_, L, so, _, _⟩ := id sat
  obtain ⟨ov, L1, hσ, ⟨_, u, hu, ru⟩, _⟩ := so.get he
  subst hu
  refine ⟨u, hσ, ?_⟩
  refine h B0 S κ G σ H sat.weak W tk _ (bindS sat q fun y yv κ1 G1 H1 S1 sat1 r1 h1 x1 => ?_)
  have ru1 := ru.mono x1.e.pre x1.e.le
  rw [Mon.run_bind, Mon.run_of] at h1
  have h2 : PostS X.K X.mg (Mon.pu m) B0 (M.bind (lift (ipOf fi v y)) (fun a => Mon.run (f a)) S1) enc D W := h1
  unfold M.bind lift ipOf at h2
  cases v with
  | int a =>
    cases y with
    | int b =>
      rw [rep_int ru1, rep_int r1]
      exact ⟨a, b, rfl, rfl, hr _ B0 S1 κ1 G1 _ H1 (sat1.setFz hi (repI _)) W tk D h2⟩
    | _ => exact h2.elim
  | _ => exact h2.elim
/-! ### x, y = a, b -/
/-- x, y = a new list, e -/
theorem sx_parO (c : Ctx X N sc k) (i j : Nat) {x y : Str} {a b : Expr} {px py pt pos : Pos} {kt k2 pt2} {ra : m (List Val)} {rb : m Val} {f : List Val → Val → m ρ} (hx : Lc N sc i x) (hy : Lc N sc j y) (hij : i ≠ j) (hi : i < E.length) (hj : j < E.length) (ha : Eo X E a ra) (hb : Ev X E b rb)
    (hr : ∀ xs v, Sx X ((E.set i (.o1 xs)).set j (.fz v)) rest Ks (f xs v) enc) (hs : noStars [a, b] = true := by rfl)
    (hw : swappedStores [.Tuple [.Name x px, .Name y py] kt pt] (.Tuple [a, b] k2 pt2) X.env = pure (some [x, y])) (hs2 : swapsWithSole [.Tuple [.Name x px, .Name y py] kt pt] (.Tuple [a, b] k2 pt2) pos.line X.env = pure false) :
    Sx X E (.Assign [.Tuple [.Name x px, .Name y py] kt pt] (.Tuple [a, b] k2 pt2) pos :: rest) Ks (ra >>= fun xs => rb >>= fun v => f xs v) enc := by
  intro B0 S κ G σ H sat W tk D q
  obtain ⟨h1, h2⟩ := hx.n
  obtain ⟨h3, h4⟩ := hy.n
  obtain ⟨s1, s2⟩ := Bool.and_eq_true_iff.mp hs
  obtain ⟨s2, _⟩ := Bool.and_eq_true_iff.mp s2
  refine wss_of (pss_cons (ps_par (i := i) (j := j) c.calm (by rw [c.n]; exact c.nd) (by rw [c.n]; exact h1) (by rw [c.n]; exact h3) hij (by rw [c.sc]; exact h2) (by rw [c.sc]; exact h4) (pa_cons pe_self (pa_cons pe_self pa_nil (star_of s2 _ _)) (star_of s1 _ _)) hw hs2) (pss_self (e := rest))) ?_
  refine ha B0 S κ G σ H sat.weak W tk _ (bindN sat q fun xs p vs κ1 G1 H1 S1 x1 e0 e1 g1 k1 rl hp => ?_)
  have satP := sat.pushO x1 e0 e1 g1 k1 rl
  refine hb B0 S1 κ1 G1 σ H1 satP.tail.weak W tk _ (bindS satP.tail hp fun v vv κ2 G2 H2 S2 sat2 r2 h2 x2 => ?_)
  exact ⟨.ref p, vv, rfl, hr xs v B0 S2 κ2 G2 _ H2 (((satP.ext x2).place hi).setFz (by simpa using hj) r2) W tk D h2⟩
/-- x, y = a, b -/
theorem sx_par (c : Ctx X N sc k) (i j : Nat) {x y : Str} {a b : Expr} {px py pt pos : Pos} {kt k2 pt2} {ra rb : m Val} {f : Val → Val → m ρ} (hx : Lc N sc i x) (hy : Lc N sc j y) (hij : i ≠ j) (hi : i < E.length) (hj : j < E.length) (ha : Ev X E a ra) (hb : Ev X E b rb)
    (hr : ∀ u v, Sx X ((E.set i (.fz u)).set j (.fz v)) rest Ks (f u v) enc) (hs : noStars [a, b] = true := by rfl)
    (hw : swappedStores [.Tuple [.Name x px, .Name y py] kt pt] (.Tuple [a, b] k2 pt2) X.env = pure (some [x, y])) (hs2 : swapsWithSole [.Tuple [.Name x px, .Name y py] kt pt] (.Tuple [a, b] k2 pt2) pos.line X.env = pure false) :
    Sx X E (.Assign [.Tuple [.Name x px, .Name y py] kt pt] (.Tuple [a, b] k2 pt2) pos :: rest) Ks (ra >>= fun u => rb >>= fun v => f u v) enc := by
  intro B0 S κ G σ H sat W tk D q
  obtain ⟨h1, h2⟩ := hx.n
  obtain ⟨h3, h4⟩ := hy.n
  obtain ⟨s1, s2⟩ := Bool.and_eq_true_iff.mp hs
  obtain ⟨s2, _⟩ := Bool.and_eq_true_iff.mp s2
  refine wss_of (pss_cons (ps_par (i := i) (j := j) c.calm (by rw [c.n]; exact c.nd) (by rw [c.n]; exact h1) (by rw [c.n]; exact h3) hij (by rw [c.sc]; exact h2) (by rw [c.sc]; exact h4) (pa_cons pe_self (pa_cons pe_self pa_nil (star_of s2 _ _)) (star_of s1 _ _)) hw hs2) (pss_self (e := rest))) ?_
  refine ha B0 S κ G σ H sat.weak W tk _ (bindS sat q fun u uu κ1 G1 H1 S1 sat1 r1 hp x1 => ?_)
  refine hb B0 S1 κ1 G1 σ H1 sat1.weak W tk _ (bindS sat1 hp fun v vv κ2 G2 H2 S2 sat2 r2 h2 x2 => ?_)
  exact ⟨uu, vv, rfl, hr u v B0 S2 κ2 G2 _ H2 ((sat2.setFz hi (r1.mono x2.e.pre x2.e.le)).setFz (by simpa using hj) r2) W tk D h2⟩
/-- x, y = e, a tuple of two -/
theorem sx_asg2 (c : CtxF X N sc k) (i j : Nat) {x y : Str} {e : Expr} {px py pt pos : Pos} {kt} {r : m Val} {f : Val → Val → m ρ} (hx : Lk N sc i x) (hy : Lk N sc j y) (hi : i < E.length) (hj : j < E.length) (h : Ev X E e r)
    (hr : ∀ u v, Sx X ((E.set i (.fz u)).set j (.fz v)) rest Ks (f u v) enc) (hs : swapsWithSole [.Tuple [.Name x px, .Name y py] kt pt] e pos.line X.env = pure false) (hw : swappedStores [.Tuple [.Name x px, .Name y py] kt pt] e X.env = pure none)
    (h1 : (assignEach [.Tuple [.Name x px, .Name y py] kt pt] X.env).map (·.2) = [assign (.Tuple [.Name x px, .Name y py] kt pt) X.env]) :
    Sx X E (.Assign [.Tuple [.Name x px, .Name y py] kt pt] e pos :: rest) Ks (r >>= fun v => on2 v f) enc := by
  intro B0 S κ G σ H sat W tk D q
  refine wss_of (pss_cons (ps_asg pe_self (pg_tup (n := 2) c.calm (pgs_cons (c.pgk hx) (pgs_cons (c.pgk hy) pgs_nil))) hs hw h1) (pss_self (e := rest))) ?_
  refine h B0 S κ G σ H sat.weak W tk _ (bindS sat q fun v vv κ1 G1 H1 S1 sat1 r1 hp x1 => ?_)
  rcases on2_cases v f with ⟨a, b, e, er⟩ | er
  · rw [er] at hp
    subst e
    obtain ⟨ad, vs, e1, hq, rl⟩ := rep_tup r1
    obtain ⟨va, vb, e2, ra, rb⟩ := repL2 rl
    subst e1 e2
    refine ⟨ad, _, rfl, sat1.w.le.sqT hq, rfl, va, _, rfl, vb, _, rfl, rfl, ?_⟩
    exact hr a b B0 S1 κ1 G1 _ H1 ((sat1.setFz hi ra).setFz (by simpa using hj) rb) W tk D hp
  · rw [er, Mon.run_of] at hp
    exact hp.elim
end
section
variable {X : Cx} {N : List Str} {sc : Scope} {k : Nat} {E : Env} {ρ : Type} {enc : ρ → Out} {rest : List Stmt} {Ks : List (List Stmt)}
/-- o[i], y = e -/
theorem sx_asgCN (c : CtxF X N sc k) (j : Nat) {y : Str} {o i e : Expr} {ps py pt pos : Pos} {kt} {r ro ri : M Val} {f : Val → M ρ} (hy : Lk N sc j y) (hj : j < E.length) (h : Ev X E e r) (ho : Ev X E o ro) (hi : Ev X E i ri)
    (hr : ∀ v, Sx X (E.set j (.fz v)) rest Ks (f v) enc) (hs : swapsWithSole [.Tuple [.Subscript o i ps, .Name y py] kt pt] e pos.line X.env = pure false) (hw : swappedStores [.Tuple [.Subscript o i ps, .Name y py] kt pt] e X.env = pure none)
    (h1 : (assignEach [.Tuple [.Subscript o i ps, .Name y py] kt pt] X.env).map (·.2) = [assign (.Tuple [.Subscript o i ps, .Name y py] kt pt) X.env])
    (hn : (assignEach [.Subscript o i ps, .Name y py] X.env).length = 2) (hst : (assignEach [.Subscript o i ps, .Name y py] X.env).findIdx? (·.1) = none)
    (he1 : (assignEach [.Subscript o i ps, .Name y py] X.env).map (·.2) = assign (.Subscript o i ps) X.env :: (assignEach [.Name y py] X.env).map (·.2))
    (hg : ∀ v, assign (.Subscript o i ps) X.env v = (do
      let ov ← holding [v] (eval o X.env)
      let iv ← holding [v, ov] (eval i X.env)
      standAt ps
      holding [v, ov, iv] (setItem ov iv v)
      release [v, ov, iv] [])) :
    Sx X E (.Assign [.Tuple [.Subscript o i ps, .Name y py] kt pt] e pos :: rest) Ks (r >>= fun v => on2 v fun a b => ro >>= fun x => ri >>= fun j => setM x j a >>= fun _ => f b) enc := by
  intro B0 S κ G σ H sat W tk D q
  refine wss_of (pss_cons (ps_asg pe_self (pg_tup (n := 2) c.calm (pgs_cons (pg_sub pe_self pe_self set_list hg) (pgs_cons (c.pgk hy) pgs_nil) he1) hn hst) hs hw h1) (pss_self (e := rest))) ?_
  refine h B0 S κ G σ H sat W tk _ (bindS sat q fun v vv κ1 G1 H1 S1 sat1 r1 hp x1 => ?_)
  rcases on2_cases v (fun a b => ro >>= fun x => ri >>= fun j => setM x j a >>= fun _ => f b) with ⟨a, b, e, er⟩ | er
  · rw [er] at hp
    subst e
    obtain ⟨ad, vs, e1, hq, rl⟩ := rep_tup r1
    obtain ⟨va, vb, e2, ra, rb⟩ := repL2 rl
    subst e1 e2
    refine ⟨ad, _, rfl, sat1.w.le.sqT hq, rfl, va, _, rfl, ?_⟩
    refine ho B0 S1 κ1 G1 σ H1 sat1 W tk _ (bindS sat1 hp fun x xv κ2 G2 H2 S2 sat2 r2 h2 x2 => ?_)
    refine hi B0 S2 κ2 G2 σ H2 sat2 W tk _ (bindS sat2 h2 fun jj jv κ3 G3 H3 S3 sat3 r3 h3 x3 => ?_)
    refine set_cell sat3 (r2.mono x3.e.pre x3.e.le) r3 ((ra.mono x2.e.pre x2.e.le).mono x3.e.pre x3.e.le) h3 fun H' S' sat' h' => ?_
    exact ⟨vb, _, rfl, rfl, hr b B0 S' κ3 G3 _ H' (sat'.setFz hj ((rb.mono x2.e.pre x2.e.le).mono x3.e.pre x3.e.le)) W tk D h'⟩
  · rw [er, Mon.run_of] at hp
    exact hp.elim
/-- [..], a new cell -/
def newC (xs : List Val) : M Val := fun S => if xs.length ≤ sizeLine then (.ok (.cell S.length), S ++ [.lst xs]) else (.stuck, S)
theorem ev_lstC {es : List Expr} {pos : Pos} {rs : M (List Val)} (h : Ea X E es rs) : Ev X E (.List es pos) (rs >>= fun xs => newC xs) := by
  intro B0 S κ G σ H sat W tk Q q
  refine we_of (pe_lst pa_self) ?_
  refine h B0 S κ G σ H sat W tk _ (bindW q fun xs vs κ1 G1 H1 S1 e1 r1 h1 => ?_)
  have h2 : Post X.K X.mg false (Rep X.K X.mg) κ1 G1 H1 S1 (if xs.length ≤ sizeLine then (.ok (.cell S1.length), S1 ++ [.lst xs]) else (.stuck, S1)) Q (fun c d H' => W c d σ H') := h1
  split at h2
  · refine ⟨by rw [r1.length]; assumption, fun p hp => ?_⟩
    have x := e1.e.w.cellnew (c := .lst xs) (o := .lst vs) hp ⟨vs, upd_same, r1⟩
    refine h2 _ _ _ (.ref p) x ?_
    unfold Rep
    exact ⟨p, by rw [← e1.e.w.len]; simp, rfl⟩
  · exact h2.elim
end
end Tv

/-! dicts -/
namespace Tv
open PySem PySem.Spec PyProof.Rows L2

def kyV : Key → Val
  | .inl i => .int i
  | .inr x => .str x
def asKey : Val → Option Key
  | .int i => some (.inl i)
  | .str x => some (.inr x)
  | _ => none
def valD (kvs : List (Key × Val)) (k : Key) : Option Val := (kvs.find? fun kv => decide (kv.1 = k)).map (·.2)
def hasD (kvs : List (Key × Val)) (k : Key) : Bool := kvs.any fun kv => decide (kv.1 = k)
def putD (kvs : List (Key × Val)) (k : Key) (v : Val) : List (Key × Val) :=
  if hasD kvs k = true then kvs.map (fun kv => if kv.1 = k then (kv.1, v) else kv) else kvs ++ [(k, v)]
section
variable {K : PySem.W.Frag} {mg : Str → Option Value} {κ : List Addr} {G H : Hp}
theorem kyV_rep (k : Key) : Rep K mg κ G (kyV k) (kV k) := by cases k <;> (unfold Rep; rfl)
theorem asKey_rep {x : Val} {k : Key} {v : V} (h : asKey x = some k) (r : Rep K mg κ G x v) : v = kV k := by
  cases x with
  | int i => cases h; rw [rep_int r]; rfl
  | str i => cases h; rw [rep_str r]; rfl
  | _ => cases h
theorem RepD.nil : RepD K mg κ G [] [] := by unfold RepD; rfl
theorem RepD.cons {k : Key} {x : Val} {v : V} {xs : List (Key × Val)} {vs : List (Key × V)} (h : Rep K mg κ G x v) (t : RepD K mg κ G xs vs) : RepD K mg κ G ((k, x) :: xs) ((k, v) :: vs) := by
  unfold RepD; exact ⟨v, vs, rfl, h, t⟩
theorem RepD.append : ∀ {xs ys : List (Key × Val)} {vs ws : List (Key × V)}, RepD K mg κ G xs vs → RepD K mg κ G ys ws → RepD K mg κ G (xs ++ ys) (vs ++ ws)
  | [], _, _, _, h, h' => by unfold RepD at h; subst h; exact h'
  | y :: xs, _, _, _, h, h' => by
    unfold RepD at h
    obtain ⟨v, r, e', q, t⟩ := h
    subst e'
    exact RepD.cons q (RepD.append t h')
theorem RepD.any {k : Key} : ∀ {xs : List (Key × Val)} {vs : List (Key × V)}, RepD K mg κ G xs vs → (vs.any fun kv => decide (kv.1 = k)) = hasD xs k
  | [], _, h => by unfold RepD at h; subst h; rfl
  | y :: xs, _, h => by
    unfold RepD at h
    obtain ⟨v, r, e', q, t⟩ := h
    subst e'
    unfold hasD
    rw [List.any_cons, List.any_cons, RepD.any t]
    rfl
theorem RepD.upd1 {k : Key} {x : Val} {v : V} (rv : Rep K mg κ G x v) : ∀ {xs : List (Key × Val)} {vs : List (Key × V)}, RepD K mg κ G xs vs → RepD K mg κ G (xs.map (fun kv => if kv.1 = k then (kv.1, x) else kv)) (vs.map (fun kv => if kv.1 = k then (kv.1, v) else kv))
  | [], _, h => by unfold RepD at h; subst h; exact .nil
  | y :: xs, _, h => by
    unfold RepD at h
    obtain ⟨w, r, e', q, t⟩ := h
    subst e'
    rw [List.map_cons, List.map_cons]
    by_cases e : y.1 = k
    · rw [if_pos e, if_pos e]; exact RepD.cons rv (RepD.upd1 rv t)
    · rw [if_neg e, if_neg e]; obtain ⟨k', x'⟩ := y; exact RepD.cons q (RepD.upd1 rv t)
theorem RepD.put {k : Key} {x : Val} {v : V} {xs : List (Key × Val)} {vs : List (Key × V)} (h : RepD K mg κ G xs vs) (rv : Rep K mg κ G x v) : RepD K mg κ G (putD xs k x) (putK vs k v) := by
  unfold putD putK
  rw [h.any]
  split
  · exact h.upd1 rv
  · exact h.append (.cons rv .nil)
theorem RepD.val {k : Key} : ∀ {xs : List (Key × Val)} {vs : List (Key × V)}, RepD K mg κ G xs vs → (∃ x v, valD xs k = some x ∧ valV vs k = some v ∧ Rep K mg κ G x v) ∨ (valD xs k = none ∧ valV vs k = none)
  | [], _, h => by unfold RepD at h; subst h; exact .inr ⟨rfl, rfl⟩
  | y :: xs, _, h => by
    unfold RepD at h
    obtain ⟨w, r, e', q, t⟩ := h
    subst e'
    unfold valD valV
    by_cases e : y.1 = k
    · rw [List.find?_cons_of_pos (by simpa using e), List.find?_cons_of_pos (by simpa using e)]
      exact .inl ⟨_, _, rfl, rfl, q⟩
    · rw [List.find?_cons_of_neg (by simpa using e), List.find?_cons_of_neg (by simpa using e)]
      exact RepD.val t
theorem RepD.get : ∀ {xs : List (Key × Val)} {vs : List (Key × V)}, RepD K mg κ G xs vs → ∀ {i : Nat} {k : Key} {v : V}, vs[i]? = some (k, v) → ∃ x, xs[i]? = some (k, x) ∧ Rep K mg κ G x v
  | [], _, h, i, k, v, e => by unfold RepD at h; subst h; simp at e
  | y :: xs, _, h, 0, k, v, e => by
    unfold RepD at h
    obtain ⟨w, r, e', q, t⟩ := h
    subst e'
    simp at e
    obtain ⟨e1, e2⟩ := e
    subst e1 e2
    exact ⟨y.2, rfl, q⟩
  | y :: xs, _, h, i + 1, k, v, e => by
    unfold RepD at h
    obtain ⟨w, r, e', q, t⟩ := h
    subst e'
    simpa using RepD.get t (i := i) (by simpa using e)
theorem rep_dic {xs : List (Key × Val)} {v : V} (h : Rep K mg κ G (.dic xs) v) : ∃ a vs, v = .ref a ∧ Rd G a (.dK vs) ∧ RepD K mg κ G xs vs := by unfold Rep at h; exact h
/-- a slot takes a fresh thing -/
theorem Sat.takeS {K : PySem.W.Frag} {mg : Str → Option Value} {p : Bool} {B0 : Bs} {κ κ1 : List Addr} {G G1 H H1 : Hp} {S S1 : Cells} {σ : L2.St} {E : Env} {a : Addr} {s : Slot} {i : Nat} (sat : Sat K mg p B0 E S κ G σ H) (x : ExtB K mg p κ G H S κ1 G1 H1 S1) (h0 : H a = none) (h1 : H1 a ≠ none) (g1 : G1 a = none) (k1 : a ∉ κ1)
    (so' : SlotOk K mg κ1 G1 H1 s (some (.ref a)) [a]) (hi : i < E.length) : Sat K mg p B0 (E.set i s) S1 κ1 G1 (σ.set i (some (.ref a))) H1 := by
  have b0 : B0.H a = none := sat.1.x.fresh h0
  obtain ⟨x0, L, so, nd, q⟩ := sat
  have e := x.e
  have so1 := so.mono (κ1 := κ1) (G1 := G1) (H1 := H1) e.pre e.le fun a m => by
    obtain ⟨_, _, n, t⟩ := q a m
    cases z : H a with
    | none => exact absurd z t
    | some o => exact e.keep a o z n
  have q1 : ∀ a ∈ L, B0.H a = none ∧ G1 a = none ∧ a ∉ κ1 ∧ H1 a ≠ none := fun a m => by
    obtain ⟨q1, q2, q3, q4⟩ := q a m
    refine ⟨q1, e.newG a q4 q2, fun z => q4 (e.newC a z q3), fun z => ?_⟩
    cases y : H a with
    | none => exact q4 y
    | some o => rw [e.keep a o y q3] at z; cases z
  have al : a ∉ L := fun m => (q a m).2.2.2 h0
  obtain ⟨L2, s2, n2, m2⟩ := so1.set (i := i) (s := s) (ov := some (.ref a)) (L1 := [a]) hi so'
  refine ⟨x0.trans x, L2, s2, n2 (fun c m => by rw [List.mem_singleton.mp m]; exact al) (List.pairwise_singleton _ _) nd, fun c m => ?_⟩
  rcases m2 c m with m | m
  · exact q1 c m
  · rw [List.mem_singleton.mp m]
    exact ⟨b0, g1, k1, h1⟩
/-- .. ahead of the slots -/
theorem Sat.pushS {K : PySem.W.Frag} {mg : Str → Option Value} {p : Bool} {B0 : Bs} {κ : List Addr} {G H : Hp} {S : Cells} {σ : L2.St} {E : Env} {a : Addr} {s : Slot} {o : HO} (sat : Sat K mg p B0 E S κ G σ H) (h0 : H a = none) (so' : SlotOk K mg κ G (L2.upd H a o) s (some (.ref a)) [a]) : Sat K mg p B0 (s :: E) S κ G (some (.ref a) :: σ) (L2.upd H a o) := by
  have b0 : B0.H a = none := sat.1.x.fresh h0
  obtain ⟨gp, kp⟩ := freshG sat.w h0
  obtain ⟨x0, L, so, nd, q⟩ := sat
  have al : a ∉ L := fun m => (q a m).2.2.2 h0
  refine ⟨x0.own b0 gp kp, a :: L, ⟨_, σ, [a], L, rfl, rfl, so', so.mono (Pre.refl _) (Le.refl _) fun c m => upd_ne fun e => al (e ▸ m)⟩, List.nodup_cons.mpr ⟨al, nd⟩, fun c m => ?_⟩
  rcases List.mem_cons.mp m with m | m
  · rw [m]; exact ⟨b0, gp, kp, by rw [upd_same]; exact fun z => nomatch z⟩
  · obtain ⟨q1, q2, q3, q4⟩ := q c m
    exact ⟨q1, q2, q3, by rw [upd_ne (show c ≠ a from fun e => al (e ▸ m))]; exact q4⟩
theorem od_uniq {S : Cells} {xs : List (Key × Val)} {ov : Option V} {L L' : List Addr} (h : SlotOk K mg κ G H (.od xs) ov L) (h' : SlotOk K mg κ G H (.od xs) ov L') : L' = L := by
  obtain ⟨a, vs, e, e1, _⟩ := h
  obtain ⟨a', vs', e', e1', _⟩ := h'
  subst e e' e1
  cases e1'
  rfl
theorem Sat.setOD {K : PySem.W.Frag} {mg : Str → Option Value} {p : Bool} {B0 : Bs} {κ : List Addr} {G H : Hp} {S : Cells} {σ : L2.St} {E : Env} (h : Sat K mg p B0 E S κ G σ H) {i : Nat} {xs ys : List (Key × Val)} (he : E[i]? = some (.od xs)) :
    ∃ a vs, σ[i]? = some (some (.ref a)) ∧ H a = some (.dK vs) ∧ RepD K mg κ G xs vs ∧ Sat K mg p B0 (E.set i (.od xs)) S κ G σ H ∧ (∀ ws, RepD K mg κ G ys ws → Sat K mg p B0 (E.set i (.od ys)) S κ G σ (L2.upd H a (.dK ws))) := by
  have e0 : E.set i (.od xs) = E := by
    obtain ⟨hi, e⟩ := List.getElem?_eq_some_iff.mp he
    rw [← e, List.set_getElem_self]
  rw [e0]
  have hs := h
  obtain ⟨x, L, so, nd, q⟩ := h
  obtain ⟨ov, L1, h1, h2, h3⟩ := so.get he
  obtain ⟨a, vs, e1, e2, e3, e4⟩ := id h2
  subst e1 e2
  have ha := q a (h3 a (by simp))
  refine ⟨a, vs, h1, e3, e4, hs, fun ws rw_ => ?_⟩
  obtain ⟨so2, _⟩ := so.own nd he h1 h2 (s' := .od ys) (H' := L2.upd H a (.dK ws)) ⟨a, ws, rfl, rfl, upd_same, rw_⟩ (fun c hc => upd_ne (fun e => hc (by simp [e]))) (fun L' h' => od_uniq (S := S) h2 h')
  refine ⟨x.own ha.1 ha.2.1 ha.2.2.1, L, so2, nd, fun c hc => ?_⟩
  obtain ⟨q1, q2, q3, q4⟩ := q c hc
  refine ⟨q1, q2, q3, ?_⟩
  by_cases e : c = a
  · subst e; rw [upd_same]; exact fun z => nomatch z
  · rw [upd_ne e]; exact q4
end

section
variable {X : Cx} {N : List Str} {sc : Scope} {k : Nat} {E : Env} {m : Type → Type} [Mon m] {ρ : Type} {enc : ρ → Out} {rest : List Stmt} {Ks : List (List Stmt)}
/-- x = {} -/
theorem sx_dict0 (c : CtxF X N sc k) (i : Nat) {x : Str} {p p2 pos : Pos} {r : m ρ} (hl : Lk N sc i x) (hi : i < E.length) (hr : Sx X (E.set i (.od [])) rest Ks r enc) :
    Sx X E (.Assign [.Name x p] (.Dict [] [] p2) pos :: rest) Ks r enc := by
  intro B0 S κ G σ H sat W tk D q
  obtain ⟨h1, h2⟩ := hl.n
  refine wss_of (pss_cons (ps_set (i := i) (by rw [c.n]; exact c.nd) (by rw [c.n]; exact h1) (by rw [c.sc]; exact h2) pe_dnewK (swaps_of rfl _ _ _) (.inl (c.fn _))) (pss_self (e := rest))) ?_
  intro p hp
  have s2 := sat.pushS (s := .od []) (o := .dK []) hp ⟨p, [], rfl, rfl, upd_same, .nil⟩
  exact hr B0 S κ G _ _ (s2.place hi) W tk D q
/-- x = {k: e} -/
theorem sx_dict1 (c : CtxF X N sc k) (i : Nat) {x : Str} {ke e : Expr} {p p2 pos : Pos} {rk re : m Val} {f : List (Key × Val) → m ρ} (hl : Lk N sc i x) (hi : i < E.length) (hk : Ev X E ke rk) (he : Ev X E e re) (hr : ∀ kvs, Sx X (E.set i (.od kvs)) rest Ks (f kvs) enc) :
    Sx X E (.Assign [.Name x p] (.Dict [some ke] [e] p2) pos :: rest) Ks (rk >>= fun a => re >>= fun v => Mon.of (match asKey a with | some j => .ok [(j, v)] | none => .stuck) >>= f) enc := by
  intro B0 S κ G σ H sat W tk D q
  obtain ⟨h1, h2⟩ := hl.n
  refine wss_of (pss_cons (ps_set (i := i) (by rw [c.n]; exact c.nd) (by rw [c.n]; exact h1) (by rw [c.sc]; exact h2) (pe_disp (pps_cons pe_self pe_self pps_nil) rfl rfl (by simp) (by simp)) (swaps_of rfl _ _ _) (.inl (c.fn _))) (pss_self (e := rest))) ?_
  intro p hp
  have s2 := sat.pushS (s := .od []) (o := .dK []) hp ⟨p, [], rfl, rfl, upd_same, .nil⟩
  refine hk B0 S κ G σ _ s2.tail.weak W tk _ (bindS s2.tail q fun a av κ1 G1 H1 S1 sat1 r1 hq1 x1 => ?_)
  refine he B0 S1 κ1 G1 σ _ sat1.weak W tk _ (bindS sat1 hq1 fun v vv κ2 G2 H2 S2 sat2 r2 hq2 x2 => ?_)
  have s3 := (s2.ext x1).ext x2
  obtain ⟨a0, vs0, hσ, hH, rl, _, put⟩ := s3.setOD (i := 0) (xs := []) (ys := match asKey a with | some j => [(j, v)] | none => []) rfl
  cases hσ
  unfold RepD at rl
  subst rl
  rw [Mon.run_bind, Mon.run_of] at hq2
  cases ka : asKey a with
  | none => simp only [ka] at hq2; exact hq2.elim
  | some j =>
    simp only [ka] at hq2 put
    refine ⟨hH, [(j, vv)], ?_, by simp, ?_⟩
    · rw [asKey_rep ka (r1.mono x2.e.pre x2.e.le)]; rfl
    · have s4 := put [(j, vv)] (.cons r2 .nil)
      exact hr _ B0 S2 κ2 G2 _ _ (Sat.place (E := E) s4 hi) W tk D hq2
/-- the room for one key more -/
def keyR (kvs : List (Key × Val)) (a : Val) : Res Key := match asKey a with
  | some k => if kvs.length < sizeLine then .ok k else .stuck
  | none => .stuck
theorem keyR_cases (kvs : List (Key × Val)) (a : Val) : (∃ k, asKey a = some k ∧ kvs.length < sizeLine ∧ keyR kvs a = .ok k) ∨ keyR kvs a = .stuck := by
  unfold keyR
  split
  · split
    · exact .inl ⟨_, by assumption, by assumption, rfl⟩
    · exact .inr rfl
  · exact .inr rfl
def setdD (kvs : List (Key × Val)) (k : Key) (v : Val) : List (Key × Val) := if (valD kvs k).isSome then kvs else putD kvs k v
/-- x.setdefault(k, e) -/
theorem sx_setd (c : Ctx X N sc k) (i : Nat) {x : Str} {ke e : Expr} {p ap cp pos : Pos} {kvs : List (Key × Val)} {rk re : m Val} {f : Key → Val → m ρ} (hn : Nm N sc i x) (hE : E[i]? = some (.od kvs)) (hk : Ev X E ke rk) (he : Ev X E e re)
    (hr : ∀ j v, Sx X (E.set i (.od (setdD kvs j v))) rest Ks (f j v) enc) (hs : noStars [ke, e] = true := by rfl) (hl : (ap.endLine == cp.line) = true := by rfl) :
    Sx X E (.Expr (.Call (.Attribute (.Name x p) "setdefault" ap) [ke, e] [] cp) pos :: rest) Ks (rk >>= fun a => re >>= fun v => Mon.of (keyR kvs a) >>= fun j => f j v) enc := by
  intro B0 S κ G σ H sat W tk D q
  obtain ⟨s1, s2⟩ := Bool.and_eq_true_iff.mp hs
  obtain ⟨s2, _⟩ := Bool.and_eq_true_iff.mp s2
  have tr : starEach [ke, e] X.env = [(false, eval ke X.env), (false, eval e X.env)] := by rw [star_of s1, star_of s2]; rfl
  refine wss_of (pss_cons (ps_expr (pe_dsetd (c.pv hn) pe_self pe_self ⟨rfl, by rw [tr]; rfl, hl, by rw [tr]; rfl⟩) rfl) (pss_self (e := rest))) ?_
  obtain ⟨a0, vs0, hσ, hH, rl, _, _⟩ := sat.setOD (ys := kvs) hE
  refine ⟨.ref a0, hσ, a0, rfl, .inl ⟨vs0, .inl hH⟩, ?_⟩
  refine hk B0 S κ G σ H sat.weak W tk _ (bindS sat q fun a av κ1 G1 H1 S1 sat1 r1 hq1 x1 => ?_)
  refine he B0 S1 κ1 G1 σ H1 sat1.weak W tk _ (bindS sat1 hq1 fun v vv κ2 G2 H2 S2 sat2 r2 hq2 x2 => ?_)
  rw [Mon.run_bind, Mon.run_of] at hq2
  rcases keyR_cases kvs a with ⟨j, hj, hz, e⟩ | e
  · rw [e] at hq2
    have hq2 : PostS X.K X.mg (Mon.pu m) B0 (Mon.run (f j v) S2) enc D W := hq2
    obtain ⟨a1, vs, hσ1, hH1, rl1, same, put⟩ := sat2.setOD (ys := putD kvs j v) hE
    rw [hσ] at hσ1
    cases hσ1
    have go := hr j v
    refine ⟨vs, j, hH1, asKey_rep hj (r1.mono x2.e.pre x2.e.le), by rw [rl1.length]; exact hz, fun u hu => ?_, fun hu => ?_⟩
    · rcases rl1.val (k := j) with ⟨y, w, e1, e2, _⟩ | ⟨e1, e2⟩
      · have : setdD kvs j v = kvs := by unfold setdD; rw [e1]; rfl
        rw [this] at go
        exact go B0 S2 κ2 G2 σ H2 same W tk D hq2
      · rw [e2] at hu; cases hu
    · rcases rl1.val (k := j) with ⟨y, w, e1, e2, _⟩ | ⟨e1, e2⟩
      · rw [e2] at hu; cases hu
      · have : setdD kvs j v = putD kvs j v := by unfold setdD; rw [e1]; rfl
        rw [this] at go
        exact go B0 S2 κ2 G2 σ _ (put _ (rl1.put r2)) W tk D hq2
  · rw [e] at hq2; exact hq2.elim
end
end Tv

/-! dicts: frozen, walked, looked up -/
namespace Tv
open PySem PySem.Spec PyProof.Rows L2

section
variable {K : PySem.W.Frag} {mg : Str → Option Value} {b : Bool} {B0 : Bs} {κ : List Addr} {G H : Hp} {S : Cells} {E : Env} {σ : L2.St}
/-- a slot's own thing is let go into the frozen part -/
theorem Sat.freezeS (h : Sat K mg b B0 E S κ G σ H) {i : Nat} {s : Slot} {y : Val} {a : Addr} {o : HO} (he : E[i]? = some s) (hσ : σ[i]? = some (some (.ref a))) (ho : ∀ L1, SlotOk K mg κ G H s (some (.ref a)) L1 → L1 = [a]) (ha : H a = some o)
    (hr : ∀ G', Le G G' → G' a = some o → ∀ L1, SlotOk K mg κ G H s (some (.ref a)) L1 → Rep K mg κ G' y (.ref a)) : Sat K mg b B0 (E.set i (.fz y)) S κ (L2.upd G a o) σ H := by
  obtain ⟨x, L, so, nd, q⟩ := h
  obtain ⟨ov, L1, h1, h2, h3⟩ := so.get he
  rw [hσ] at h1
  cases h1
  have e1 := ho L1 h2
  subst e1
  obtain ⟨q1, q2, q3, q4⟩ := q a (h3 a (by simp))
  obtain ⟨x2, lg⟩ := x.freeze q1 q2 q3 ha
  have ry := hr _ lg upd_same _ h2
  have so2 := so.mono (H1 := H) (Pre.refl κ) lg fun _ _ => rfl
  have key : ∀ {E : Env} {σ : L2.St} {L : List Addr} {i : Nat}, SlotsOk K mg κ (L2.upd G a o) H E σ L → SlotsOk K mg κ G H E σ L → L.Nodup → E[i]? = some s → σ[i]? = some (some (.ref a)) →
      ∃ LL, SlotsOk K mg κ (L2.upd G a o) H (E.set i (.fz y)) σ LL ∧ LL.Nodup ∧ (∀ c ∈ LL, c ∈ L) ∧ a ∉ LL := by
    intro E
    induction E with
    | nil => intro σ L i _ _ _ e; simp at e
    | cons s0 E ih =>
      intro σ L i so so0 nd e eo
      obtain ⟨ov, r, L1, Lr, z1, z2, g1, g2⟩ := so0
      subst z1 z2
      obtain ⟨n1, n2, n3⟩ := List.nodup_append.mp nd
      cases i with
      | zero =>
        simp at e eo; subst e eo
        have := ho L1 g1
        subst this
        have g2' := g2.mono (H1 := H) (Pre.refl κ) lg fun _ _ => rfl
        exact ⟨Lr, ⟨some (.ref a), r, [], Lr, rfl, rfl, ⟨rfl, _, rfl, ry⟩, g2'⟩, n2, fun c m => by simp [m], fun m => n3 a (by simp) a m rfl⟩
      | succ i =>
        have g2' := g2.mono (H1 := H) (Pre.refl κ) lg fun _ _ => rfl
        obtain ⟨L3, w1, w2, w3, w4⟩ := ih g2' g2 n2 (by simpa using e) (by simpa using eo)
        have am : a ∈ Lr := by
          obtain ⟨ov', L', p1, p2, p3⟩ := g2.get (i := i) (by simpa using e)
          have z : ov' = some (.ref a) := by
            have t : r[i]? = some (some (.ref a)) := by simpa using eo
            rw [p1] at t
            exact Option.some.inj t
          rw [z] at p2
          have := ho L' p2
          subst this
          exact p3 a (by simp)
        have g1' := g1.mono (H1 := H) (Pre.refl κ) lg fun _ _ => rfl
        refine ⟨L1 ++ L3, ⟨ov, r, L1, L3, rfl, rfl, g1', w1⟩, List.nodup_append.mpr ⟨n1, w2, fun c m d m' e' => n3 c m d (w3 d m') e'⟩, fun c m => ?_, fun m => ?_⟩
        · rcases List.mem_append.mp m with m | m
          · simp [m]
          · simp [w3 c m]
        · rcases List.mem_append.mp m with m | m
          · exact n3 a m a am rfl
          · exact w4 m
  obtain ⟨LL, s2, n2, m2, na⟩ := key so2 so nd he hσ
  refine ⟨x2, LL, s2, n2, fun c m => ?_⟩
  obtain ⟨p1, p2, p3, p4⟩ := q c (m2 c m)
  exact ⟨p1, by rw [upd_ne (show c ≠ a from fun e => na (e ▸ m))]; exact p2, p3, p4⟩
theorem Sat.freezeD (h : Sat K mg b B0 E S κ G σ H) {i : Nat} {kvs : List (Key × Val)} (he : E[i]? = some (.od kvs)) : ∃ G', Sat K mg b B0 (E.set i (.fz (.dic kvs))) S κ G' σ H := by
  obtain ⟨a, vs, hσ, hH, rl, _, _⟩ := h.setOD (ys := kvs) he
  refine ⟨_, h.freezeS (y := .dic kvs) he hσ (fun L1 h1 => ?_) hH fun G' lg hg L1 h1 => ?_⟩
  · obtain ⟨a', vs', e, e1, _⟩ := h1
    cases e1
    exact e
  · unfold Rep
    exact ⟨a, vs, rfl, .inl hg, rl.mono (Pre.refl _) lg⟩

/-! ### the same thing, locked or not -/
def sw (a : Addr) (y : HO) (G : Hp) : Hp := fun c => if c = a then (match G a with | none => none | some _ => some y) else G c
theorem sw_ne {a c : Addr} {y : HO} {G : Hp} (h : c ≠ a) : sw a y G c = G c := by unfold sw; rw [if_neg h]
theorem sw_none {a c : Addr} {y : HO} {G : Hp} : sw a y G c = none ↔ G c = none := by
  unfold sw
  by_cases h : c = a
  · subst h
    rw [if_pos rfl]
    cases G c <;> simp
  · rw [if_neg h]
theorem sw_same {a : Addr} {y o : HO} {G : Hp} (h : G a = some o) : sw a y G a = some y := by unfold sw; rw [if_pos rfl, h]
theorem sw_le {a : Addr} {y : HO} {G G' : Hp} (h : Le G G') : Le (sw a y G) (sw a y G') := fun c o e => by
  by_cases hc : c = a
  · subst hc
    cases q : G c with
    | none => rw [sw_none.mpr q] at e; cases e
    | some o' => rw [sw_same q] at e; cases e; exact sw_same (h _ _ q)
  · rw [sw_ne hc] at e ⊢; exact h _ _ e
theorem sw_upd {a : Addr} {y o : HO} {H : Hp} (h : H a = some o) : sw a y H = L2.upd H a y := by
  funext c
  by_cases hc : c = a
  · subst hc; rw [sw_same h, upd_same]
  · rw [sw_ne hc, upd_ne hc]
theorem sw_sw {a : Addr} {y z : HO} {G : Hp} : sw a z (sw a y G) = sw a z G := by
  funext c
  by_cases hc : c = a
  · subst hc
    cases q : G c with
    | none => rw [sw_none.mpr (sw_none.mpr q), sw_none.mpr q]
    | some o => rw [sw_same (sw_same q), sw_same q]
  · rw [sw_ne hc, sw_ne hc, sw_ne hc]
theorem sw_id {a : Addr} {y : HO} {G : Hp} (h : ∀ o, G a = some o → o = y) : sw a y G = G := by
  funext c
  by_cases hc : c = a
  · subst hc
    cases q : G c with
    | none => exact sw_none.mpr q
    | some o => rw [sw_same q, h o q]
  · exact sw_ne hc
/-- both are the dict vs -/
def IsDk (vs : List (Key × V)) (o : HO) : Prop := o = .dK vs ∨ ∃ ob, o = .frz ob (.dK vs)
section
variable {a : Addr} {y : HO} {ds : List (Key × V)}
theorem sw_sqT (hy : ∀ o, G a = some o → IsDk ds o) {c : Addr} {vs : List V} (h : SqT K G c vs) : SqT K (sw a y G) c vs := by
  rcases h with (h | ⟨o, h⟩) | h
  · by_cases hc : c = a
    · subst hc
      rcases hy _ h with e | ⟨_, e⟩ <;> cases e
    · exact .inl (.inl (by rw [sw_ne hc]; exact h))
  · by_cases hc : c = a
    · subst hc
      rcases hy _ h with e | ⟨_, e⟩ <;> cases e
    · exact .inl (.inr ⟨o, by rw [sw_ne hc]; exact h⟩)
  · exact .inr h
theorem sw_sqL (hy : ∀ o, G a = some o → IsDk ds o) {c : Addr} {vs : List V} (h : SqL K G c vs) : SqL K (sw a y G) c vs := by
  rcases h with (h | ⟨o, h⟩) | h
  · by_cases hc : c = a
    · subst hc
      rcases hy _ h with e | ⟨_, e⟩ <;> cases e
    · exact .inl (.inl (by rw [sw_ne hc]; exact h))
  · by_cases hc : c = a
    · subst hc
      rcases hy _ h with e | ⟨_, e⟩ <;> cases e
    · exact .inl (.inr ⟨o, by rw [sw_ne hc]; exact h⟩)
  · exact .inr h
theorem sw_one (hy : ∀ o, G a = some o → IsDk ds o) {c : Addr} {o : HO} (ho : ¬ IsDk ds o) (h : G c = some o) : sw a y G c = some o := by
  by_cases hc : c = a
  · subst hc; exact absurd (hy _ h) ho
  · rw [sw_ne hc]; exact h
theorem sw_rd (hy : ∀ o, G a = some o → IsDk ds o) (h2 : IsDk ds y) {c : Addr} {vs : List (Key × V)} (h : Rd G c (.dK vs)) : Rd (sw a y G) c (.dK vs) := by
  by_cases hc : c = a
  · subst hc
    have e : vs = ds ∧ ∃ o, G c = some o := by
      rcases h with h | ⟨o, h⟩
      · rcases hy _ h with e | ⟨_, e⟩ <;> cases e
        exact ⟨rfl, _, h⟩
      · rcases hy _ h with e | ⟨_, e⟩ <;> cases e
        exact ⟨rfl, _, h⟩
    obtain ⟨e1, o, e2⟩ := e
    subst e1
    rcases h2 with e | ⟨ob, e⟩
    · exact .inl (by rw [sw_same e2, e])
    · exact .inr ⟨ob, by rw [sw_same e2, e]⟩
  · rcases h with h | ⟨o, h⟩
    · exact .inl (by rw [sw_ne hc]; exact h)
    · exact .inr ⟨o, by rw [sw_ne hc]; exact h⟩
theorem nd_lst {xs : List V} : ¬ IsDk ds (.lst xs) := fun h => by rcases h with e | ⟨_, e⟩ <;> cases e
theorem nd_ins {C dx : Addr} {fs : List (Str × V)} : ¬ IsDk ds (.ins C dx fs) := fun h => by rcases h with e | ⟨_, e⟩ <;> cases e
mutual
theorem Rep.sw (hy : ∀ o, G a = some o → IsDk ds o) (h2 : IsDk ds y) : ∀ {x : Val} {v : V}, Rep K mg κ G x v → Rep K mg κ (Tv.sw a y G) x v
  | .non, _, h => by unfold Rep at h ⊢; exact h
  | .bl _, _, h => by unfold Rep at h ⊢; exact h
  | .int _, _, h => by unfold Rep at h ⊢; exact h
  | .str _, _, h => by unfold Rep at h ⊢; exact h
  | .tup xs, _, h => by
    unfold Rep at h ⊢
    obtain ⟨c, vs, e, q, r⟩ := h
    exact ⟨c, vs, e, sw_sqT hy q, RepL.sw hy h2 r⟩
  | .lst xs, _, h => by
    unfold Rep at h ⊢
    obtain ⟨c, vs, e, q, r⟩ := h
    exact ⟨c, vs, e, sw_one hy nd_lst q, RepL.sw hy h2 r⟩
  | .dic xs, _, h => by
    unfold Rep at h ⊢
    obtain ⟨c, vs, e, q, r⟩ := h
    exact ⟨c, vs, e, sw_rd hy h2 q, RepD.sw hy h2 r⟩
  | .obj _ xs, _, h => by
    unfold Rep at h ⊢
    obtain ⟨c, Ca, dx, vs, e, cc, q, r⟩ := h
    exact ⟨c, Ca, dx, vs, e, cc, sw_one hy nd_ins q, RepF.sw hy h2 r⟩
  | .cell _, _, h => by unfold Rep at h ⊢; exact h
  | .scr xs, _, h => by
    unfold Rep at h ⊢
    obtain ⟨c, vs, e, q, r⟩ := h
    exact ⟨c, vs, e, sw_sqL hy q, RepL.sw hy h2 r⟩
theorem RepL.sw (hy : ∀ o, G a = some o → IsDk ds o) (h2 : IsDk ds y) : ∀ {xs : List Val} {vs : List V}, RepL K mg κ G xs vs → RepL K mg κ (Tv.sw a y G) xs vs
  | [], _, h => by unfold RepL at h ⊢; exact h
  | x :: xs, _, h => by
    unfold RepL at h ⊢
    obtain ⟨v, r, e, q, t⟩ := h
    exact ⟨v, r, e, Rep.sw hy h2 q, RepL.sw hy h2 t⟩
theorem RepD.sw (hy : ∀ o, G a = some o → IsDk ds o) (h2 : IsDk ds y) : ∀ {xs : List (Key × Val)} {vs : List (Key × V)}, RepD K mg κ G xs vs → RepD K mg κ (Tv.sw a y G) xs vs
  | [], _, h => by unfold RepD at h ⊢; exact h
  | x :: xs, _, h => by
    unfold RepD at h ⊢
    obtain ⟨v, r, e, q, t⟩ := h
    exact ⟨v, r, e, Rep.sw hy h2 q, RepD.sw hy h2 t⟩
theorem RepF.sw (hy : ∀ o, G a = some o → IsDk ds o) (h2 : IsDk ds y) : ∀ {xs : List (Str × Val)} {vs : List (Str × V)}, RepF K mg κ G xs vs → RepF K mg κ (Tv.sw a y G) xs vs
  | [], _, h => by unfold RepF at h ⊢; exact h
  | x :: xs, _, h => by
    unfold RepF at h ⊢
    obtain ⟨v, r, e, q, t⟩ := h
    exact ⟨v, r, e, Rep.sw hy h2 q, RepF.sw hy h2 t⟩
end
/-- everything at a is this dict -/
def Bs.sw (B : Bs) (a : Addr) (y : HO) : Bs := { B with G := Tv.sw a y B.G, H := Tv.sw a y B.H, Gf := Tv.sw a y B.Gf }
theorem CRep.sw (hy : ∀ o, G a = some o → IsDk ds o) (h2 : IsDk ds y) {c : Addr} (hc : c ≠ a) : ∀ {x : Val}, CRep K mg κ G H c x → CRep K mg κ (Tv.sw a y G) (Tv.sw a y H) c x
  | .lst xs, q => by obtain ⟨vs, e, r⟩ := q; exact ⟨vs, by rw [sw_ne hc]; exact e, r.sw hy h2⟩
  | .obj C fs, q => by obtain ⟨Ca, dx, vs, e0, e, r⟩ := q; exact ⟨Ca, dx, vs, e0, by rw [sw_ne hc]; exact e, r.sw hy h2⟩
  | .dic xs, q => by obtain ⟨vs, e, r⟩ := q; exact ⟨vs, by rw [sw_ne hc]; exact e, r.sw hy h2⟩
  | .non, q => q.elim
  | .bl _, q => q.elim
  | .int _, q => q.elim
  | .str _, q => q.elim
  | .tup _, q => q.elim
  | .cell _, q => q.elim
  | .scr _, q => q.elim
theorem Wd.sw (w : Wd K mg κ G H S) {o : HO} (hg : G a = some o) (ho : IsDk ds o) (h2 : IsDk ds y) : Wd K mg κ (Tv.sw a y G) (Tv.sw a y H) S := by
  have ka : a ∉ κ := fun m => by rw [w.ap a m] at hg; cases hg
  have hy : ∀ o', G a = some o' → IsDk ds o' := fun o' e => by rw [hg] at e; cases e; exact ho
  exact ⟨sw_le w.le, w.nd, fun c m => sw_none.mpr (w.ap c m), w.len, fun n c v h1 h3 => (w.cel n c v h1 h3).sw hy h2 fun e => ka (e ▸ List.mem_of_getElem? h1)⟩
theorem ExtS.sw (x : ExtS K mg b B0 κ G H S) {o : HO} (hg : G a = some o) (ho : IsDk ds o) (h2 : IsDk ds y) : ExtS K mg b (B0.sw a y) κ (Tv.sw a y G) (Tv.sw a y H) S := by
  obtain ⟨⟨e, p⟩, pf, lf⟩ := x
  have ka : a ∉ κ := fun m => by rw [e.w.ap a m] at hg; cases hg
  refine ⟨⟨⟨e.pre, sw_le e.le, fun c u h n => ?_, fun c h g => sw_none.mpr (e.newG c (fun z => h (sw_none.mpr z)) (sw_none.mp g)), fun c m n => sw_none.mpr (e.newC c m n), e.w.sw hg ho h2⟩, fun z => ?_⟩, pf, sw_le lf⟩
  · show Tv.sw a y H c = some u
    have h : Tv.sw a y B0.H c = some u := h
    by_cases hc : c = a
    · subst hc
      cases q : B0.H c with
      | none => rw [sw_none.mpr q] at h; cases h
      | some o' =>
        rw [sw_same q] at h; cases h
        exact sw_same (e.keep c o' q n)
    · rw [sw_ne hc] at h ⊢; exact e.keep c u h n
  · obtain ⟨p1, p2, p3⟩ := p z
    exact ⟨p1, p2, sw_le p3⟩
theorem SlotOk.sw (hy : ∀ o, G a = some o → IsDk ds o) (h2 : IsDk ds y) : ∀ {s : Slot} {ov : Option V} {L : List Addr}, SlotOk K mg κ G H s ov L → a ∉ L → SlotOk K mg κ (Tv.sw a y G) (Tv.sw a y H) s ov L
  | .un, _, _, h, _ => h
  | .fz x, _, _, ⟨e, v, h, r⟩, _ => ⟨e, v, h, r.sw hy h2⟩
  | .o1 xs, _, _, h, n => by
    obtain ⟨c, vs, e, e1, e2, e3⟩ := h
    subst e
    exact ⟨c, vs, rfl, e1, by rw [sw_ne (show c ≠ a from fun z => n (by simp [z]))]; exact e2, e3.sw hy h2⟩
  | .o2 xss, _, _, h, n => by
    obtain ⟨c, as, e, e1, e2, e3⟩ := h
    subst e
    refine ⟨c, as, rfl, e1, by rw [sw_ne (show c ≠ a from fun z => n (by simp [z]))]; exact e2, ?_⟩
    have na : a ∉ as := fun z => n (by simp [z])
    clear e2 n e1
    induction xss generalizing as with
    | nil => exact e3
    | cons xs xss ih =>
      obtain ⟨d, r, vs, z, z1, z2, z3⟩ := e3
      subst z
      exact ⟨d, r, vs, rfl, by rw [sw_ne (show d ≠ a from fun z => na (by simp [z]))]; exact z1, z2.sw hy h2, ih r z3 fun z => na (by simp [z])⟩
  | .od xs, _, _, h, n => by
    obtain ⟨c, vs, e, e1, e2, e3⟩ := h
    subst e
    exact ⟨c, vs, rfl, e1, by rw [sw_ne (show c ≠ a from fun z => n (by simp [z]))]; exact e2, e3.sw hy h2⟩
  | .oi C xs, _, _, h, n => by
    obtain ⟨c, Ca, dx, vs, e, e1, e4, e2, e3⟩ := h
    subst e
    exact ⟨c, Ca, dx, vs, rfl, e1, e4, by rw [sw_ne (show c ≠ a from fun z => n (by simp [z]))]; exact e2, e3.sw hy h2⟩
theorem SlotsOk.sw (hy : ∀ o, G a = some o → IsDk ds o) (h2 : IsDk ds y) : ∀ {E : Env} {σ : L2.St} {L : List Addr}, SlotsOk K mg κ G H E σ L → a ∉ L → SlotsOk K mg κ (Tv.sw a y G) (Tv.sw a y H) E σ L
  | [], _, _, h, _ => h
  | s :: E, _, _, h, n => by
    obtain ⟨ov, r, L1, L2, e1, e2, h1, h3⟩ := h
    subst e1 e2
    exact ⟨ov, r, L1, L2, rfl, rfl, h1.sw hy h2 fun z => n (by simp [z]), SlotsOk.sw hy h2 h3 fun z => n (by simp [z])⟩
theorem Sat.sw (h : Sat K mg b B0 E S κ G σ H) {o : HO} (hg : G a = some o) (ho : IsDk ds o) (h2 : IsDk ds y) : Sat K mg b (B0.sw a y) E S κ (Tv.sw a y G) σ (Tv.sw a y H) := by
  obtain ⟨x, L, so, nd, q⟩ := h
  have hy : ∀ o', G a = some o' → IsDk ds o' := fun o' e => by rw [hg] at e; cases e; exact ho
  refine ⟨x.sw hg ho h2, L, so.sw hy h2 fun m => ?_, nd, fun c m => ?_⟩
  · have := (q a m).2.1
    rw [hg] at this; cases this
  · obtain ⟨q1, q2, q3, q4⟩ := q c m
    exact ⟨sw_none.mpr q1, sw_none.mpr q2, q3, fun z => q4 (sw_none.mp z)⟩
end
end
end Tv

/-! loops over dicts; lookups -/
namespace Tv
open PySem PySem.Spec PyProof.Rows L2

def itemsV (kvs : List (Key × Val)) : List Val := kvs.map fun kv => .tup [kyV kv.1, kv.2]
def keysV (kvs : List (Key × Val)) : List Val := kvs.map fun kv => kyV kv.1
def valuesV (kvs : List (Key × Val)) : List Val := kvs.map fun kv => kv.2
section
variable {K : PySem.W.Frag} {mg : Str → Option Value} {κ : List Addr} {G : Hp} {a : Addr} {o : Obj} {vs : List (Key × V)} {kvs : List (Key × Val)}
theorem itR_items (h : G a = some (.frz o (.dK vs))) (t : RepD K mg κ G kvs vs) : ItR K mg κ G (itemsV kvs) (Iti a o vs) where
  go := fun i H l hi => ⟨l _ _ h, by unfold itemsV at hi; rw [List.length_map, ← t.length] at hi; exact hi⟩
  stop := fun H l => ⟨l _ _ h, by unfold itemsV; rw [List.length_map, t.length]; exact Nat.le_refl _⟩
  yld := fun i H x H' l hy it hi => by
    obtain ⟨T, k, v, e1, e2, e3, e4⟩ := hy
    obtain ⟨y, h1, r⟩ := t.get e1
    unfold itemsV at hi
    rw [List.getElem?_map, h1] at hi
    cases hi
    exact .inr ⟨T, _, _, e3, e4, e2, rfl, .cons (kyV_rep k) (.cons r .nil)⟩
theorem itR_keys (h : G a = some (.frz o (.dK vs))) (t : RepD K mg κ G kvs vs) : ItR K mg κ G (keysV kvs) (Itk a o vs) where
  go := fun i H l hi => ⟨l _ _ h, by unfold keysV at hi; rw [List.length_map, ← t.length] at hi; exact hi⟩
  stop := fun H l => ⟨l _ _ h, by unfold keysV; rw [List.length_map, t.length]; exact Nat.le_refl _⟩
  yld := fun i H x H' l hy it hi => by
    obtain ⟨e, k, v, e1, e2⟩ := hy
    obtain ⟨y, h1, r⟩ := t.get e1
    unfold keysV at hi
    rw [List.getElem?_map, h1] at hi
    cases hi
    exact .inl ⟨e, by rw [e2]; exact kyV_rep k⟩
theorem itR_values (h : G a = some (.frz o (.dK vs))) (t : RepD K mg κ G kvs vs) : ItR K mg κ G (valuesV kvs) (Itd a o vs) where
  go := fun i H l hi => ⟨l _ _ h, by unfold valuesV at hi; rw [List.length_map, ← t.length] at hi; exact hi⟩
  stop := fun H l => ⟨l _ _ h, by unfold valuesV; rw [List.length_map, t.length]; exact Nat.le_refl _⟩
  yld := fun i H x H' l hy it hi => by
    obtain ⟨e, k, e1⟩ := hy
    obtain ⟨y, h1, r⟩ := t.get e1
    unfold valuesV at hi
    rw [List.getElem?_map, h1] at hi
    cases hi
    exact .inl ⟨e, r⟩
end
section
variable {X : Cx} {N : List Str} {sc : Scope} {k : Nat} {E : Env} {m : Type → Type} [Mon m] {ρ : Type} {enc : ρ → Out}
theorem noExn_post {K : PySem.W.Frag} {mg : Str → Option Value} {p : Bool} {B0 : Bs} {r : M ρ} {S : Cells} {D : Ends} {W : WX} (h : PostS K mg p B0 (noExn r S) enc D W) : ∃ y S', r S = (.ok y, S') ∧ PostO K mg p B0 S' D (enc y) := by
  unfold noExn at h
  cases e : r S with
  | mk q S' =>
    rw [e] at h
    cases q with
    | ok y => exact ⟨y, S', rfl, h⟩
    | exn c fs => exact h.elim
    | stuck => exact h.elim
/-- the ends of a walk over a locked dict -/
def lockD (a : Addr) (y z : HO) (D : Ends) : Ends := ⟨fun σ' H' => H' a = some y ∧ D.nx σ' (L2.upd H' a z), fun v H' => H' a = some y ∧ D.rt v (L2.upd H' a z), fun σ' H' => H' a = some y ∧ D.bk σ' (L2.upd H' a z), fun σ' H' => H' a = some y ∧ D.ct σ' (L2.upd H' a z)⟩
theorem unlock_sat {K : PySem.W.Frag} {mg : Str → Option Value} {b : Bool} {B0 : Bs} {κ κ' : List Addr} {G G' H H' : Hp} {S S' : Cells} {E' : Env} {a : Addr} {vs : List (Key × V)} {ob : Obj} (x : ExtS K mg b B0 κ G H S) (hg : G a = some (.dK vs)) :
    (∀ (σ' : L2.St), Sat K mg b ((B0.sw a (.frz ob (.dK vs))).fl κ (Tv.sw a (.frz ob (.dK vs)) G)) E' S' κ' G' σ' H' → H' a = some (.frz ob (.dK vs)) ∧ Sat K mg b B0 E' S' κ' (Tv.sw a (.dK vs) G') σ' (L2.upd H' a (.dK vs))) ∧
    (ExtS K mg b ((B0.sw a (.frz ob (.dK vs))).fl κ (Tv.sw a (.frz ob (.dK vs)) G)) κ' G' H' S' → H' a = some (.frz ob (.dK vs)) ∧ G' a = some (.frz ob (.dK vs)) ∧ ExtS K mg b B0 κ' (Tv.sw a (.dK vs) G') (L2.upd H' a (.dK vs)) S') := by
  have hH : H a = some (.dK vs) := x.x.e.w.le _ _ hg
  have ka : a ∉ κ := fun m => by rw [x.x.e.w.ap a m] at hg; cases hg
  have k0 : a ∉ B0.κ := fun m => ka (x.x.e.pre.mem m)
  have back : (B0.sw a (.frz ob (.dK vs))).sw a (.dK vs) = B0 := by
    unfold Bs.sw
    have e1 : Tv.sw a (.dK vs) (Tv.sw a (.frz ob (.dK vs)) B0.G) = B0.G := by
      rw [sw_sw]
      exact sw_id fun o e => by have := x.x.e.le a o e; rw [hg] at this; cases this; rfl
    have e2 : Tv.sw a (.dK vs) (Tv.sw a (.frz ob (.dK vs)) B0.H) = B0.H := by
      rw [sw_sw]
      exact sw_id fun o e => by have := x.x.e.keep a o e k0; rw [hH] at this; cases this; rfl
    have e3 : Tv.sw a (.dK vs) (Tv.sw a (.frz ob (.dK vs)) B0.Gf) = B0.Gf := by
      rw [sw_sw]
      exact sw_id fun o e => by have := x.lf a o e; rw [hg] at this; cases this; rfl
    show Bs.mk _ _ _ _ _ _ = B0
    rw [show (Tv.sw a (.dK vs) (Tv.sw a (.frz ob (.dK vs)) B0.G)) = B0.G from e1, show (Tv.sw a (.dK vs) (Tv.sw a (.frz ob (.dK vs)) B0.H)) = B0.H from e2, show (Tv.sw a (.dK vs) (Tv.sw a (.frz ob (.dK vs)) B0.Gf)) = B0.Gf from e3]
  have gy : Tv.sw a (.frz ob (.dK vs)) G a = some (.frz ob (.dK vs)) := sw_same hg
  have core : ExtS K mg b ((B0.sw a (.frz ob (.dK vs))).fl κ (Tv.sw a (.frz ob (.dK vs)) G)) κ' G' H' S' → G' a = some (.frz ob (.dK vs)) ∧ H' a = some (.frz ob (.dK vs)) := fun y => by
    have g1 : G' a = some (.frz ob (.dK vs)) := y.lf a _ gy
    exact ⟨g1, y.x.e.w.le _ _ g1⟩
  refine ⟨fun σ' s => ?_, fun y => ?_⟩
  · obtain ⟨g1, h1⟩ := core s.1
    have s2 : Sat K mg b (B0.sw a (.frz ob (.dK vs))) E' S' κ' G' σ' H' := s.unfl (B0 := B0.sw a (.frz ob (.dK vs))) x.pf (sw_le x.lf)
    have s3 := s2.sw (y := .dK vs) (ds := vs) g1 (.inr ⟨ob, rfl⟩) (.inl rfl)
    rw [back, sw_upd h1] at s3
    exact ⟨h1, s3⟩
  · obtain ⟨g1, h1⟩ := core y
    have s2 : ExtS K mg b (B0.sw a (.frz ob (.dK vs))) κ' G' H' S' := y.unfl (B0 := B0.sw a (.frz ob (.dK vs))) x.pf (sw_le x.lf)
    have s3 := s2.sw (y := .dK vs) (ds := vs) g1 (.inr ⟨ob, rfl⟩) (.inl rfl)
    rw [back, sw_upd h1] at s3
    exact ⟨h1, g1, s3⟩
theorem lock_post {K : PySem.W.Frag} {mg : Str → Option Value} {b : Bool} {B0 : Bs} {κ : List Addr} {G H : Hp} {S S' : Cells} {a : Addr} {vs : List (Key × V)} {ob : Obj} {D : Ends} {o : Out} (x : ExtS K mg b B0 κ G H S) (hg : G a = some (.dK vs)) (hr : ∀ x, o ≠ .rr x) (h : PostO K mg b B0 S' D o) :
    PostO K mg b ((B0.sw a (.frz ob (.dK vs))).fl κ (Tv.sw a (.frz ob (.dK vs)) G)) S' (lockD a (.frz ob (.dK vs)) (.dK vs) D) o := by
  cases o with
  | nx E' => exact fun κ' G' σ' H' s => by obtain ⟨h1, s1⟩ := (unlock_sat x hg).1 σ' s; exact ⟨h1, h κ' _ σ' _ s1⟩
  | bk E' => exact fun κ' G' σ' H' s => by obtain ⟨h1, s1⟩ := (unlock_sat x hg).1 σ' s; exact ⟨h1, h κ' _ σ' _ s1⟩
  | ct E' => exact fun κ' G' σ' H' s => by obtain ⟨h1, s1⟩ := (unlock_sat x hg).1 σ' s; exact ⟨h1, h κ' _ σ' _ s1⟩
  | rt z =>
    intro κ' G' H' v e r
    obtain ⟨h1, g1, s1⟩ := (unlock_sat (E' := []) x hg).2 e
    exact ⟨h1, h κ' _ _ v s1 (r.sw (ds := vs) (fun o e => (by rw [g1] at e; cases e; exact .inr ⟨ob, rfl⟩)) (.inl rfl))⟩
  | rr z => exact absurd rfl (hr z)
/-- a loop over a view of a frozen dict -/
theorem st_forD (c : Ctx X N sc k) {τ : Type} {tg iter : Expr} {body : List Stmt} {pos : Pos} {step : ρ → Val → m (Fl ρ τ)} (enc0 : ρ → Env) (tv : τ → Val) (is : List Nat) (st0 : ρ) (hE : unset E is = enc0 st0) {i : Nat} {kvs : List (Key × Val)} (he : E[i]? = some (.fz (.dic kvs)))
    {items : List (Key × Val) → List Val} {J : Addr → Obj → List (Key × V) → It} {wi : TI} (hpi : PI X tg iter wi)
    (hwi : ∀ σ H R a o vs, σ[i]? = some (some (.ref a)) → H a = some (.frz o (.dK vs)) → R (J a o vs) H → wi σ H R)
    (hJ : ∀ κ G a o vs kvs, G a = some (.frz o (.dK vs)) → RepD X.K X.mg κ G kvs vs → ItR X.K X.mg κ G (items kvs) (J a o vs))
    (hb : ∀ st x, Tb X (enc0 st) tg x body (step st x) (encL enc0 tv)) (hfs : ∀ env x, foldedSetIterable iter env x = pure x := by intros; rfl) :
    St1 X E (.For tg iter body [] pos) (Mon.nx (forM' step (items kvs) st0)) (encL enc0 tv) := by
  intro B0 S κ G σ H sat W tk D q
  rw [Mon.run_nx] at q
  obtain ⟨y, S2, ey, py⟩ := noExn_post q
  obtain ⟨_, L, so, _, _⟩ := id sat
  obtain ⟨ov, L1, hσ, ⟨_, u, hu, ru⟩, _⟩ := so.get he
  subst hu
  obtain ⟨a, vs, ev, hrd, rl⟩ := rep_dic ru
  subst ev
  have eqn : Mon.run (m := m) ((Pure.pure (items kvs) : m (List Val)) >>= fun xs => forM' step xs st0) S = (.ok y, S2) := by
    rw [Mon.run_bind, Mon.run_pure]
    exact ey
  rcases hrd with hg | ⟨ob, hg⟩
  · have hH : H a = some (.dK vs) := sat.w.le _ _ hg
    refine ws_of (ps_lock (ps_self (e := .For tg iter body [] pos))) ⟨a, .dK vs, hH, trivial, fun ob => ?_⟩
    have s1 := sat.sw (y := .frz ob (.dK vs)) (ds := vs) hg (.inl rfl) (.inr ⟨ob, rfl⟩)
    rw [sw_upd hH] at s1
    have s2 := s1.fl (κ1 := κ) (G1 := Tv.sw a (.frz ob (.dK vs)) G) (Pre.refl _) (Le.refl _)
    have gy : Tv.sw a (.frz ob (.dK vs)) G a = some (.frz ob (.dK vs)) := sw_same hg
    refine for_core (ri := Pure.pure (items kvs)) c enc0 tv is st0 hE hb hfs s2 tk (fun R p => ?_) ?_
    · refine wi_of hpi (hwi σ _ R a ob vs hσ upd_same ?_)
      rw [Mon.run_pure] at p
      exact p _ _ _ _ (ExtB.refl s2.w) (hJ κ _ a ob vs kvs gy (rl.sw (ds := vs) (fun o e => by rw [hg] at e; cases e; exact .inl rfl) (.inr ⟨ob, rfl⟩)))
    · rw [eqn]
      exact lock_post sat.1 hg (fun x z => by cases y <;> cases z) py
  · refine for_core (ri := Pure.pure (items kvs)) c enc0 tv is st0 hE hb hfs sat tk (fun R p => ?_) ?_
    · refine wi_of hpi (hwi σ _ R a ob vs hσ (sat.w.le _ _ hg) ?_)
      rw [Mon.run_pure] at p
      exact p _ _ _ _ (ExtB.refl sat.w) (hJ κ _ a ob vs kvs hg rl)
    · rw [eqn]
      exact py
/-- for x, y in d.items() -/
theorem st_forItems (c : Ctx X N sc k) {τ : Type} {elts : List Expr} {kk} {tpos p ap cp pos : Pos} {body : List Stmt} {step : ρ → Val → m (Fl ρ τ)} (enc0 : ρ → Env) (tv : τ → Val) (is : List Nat) (st0 : ρ) (hE : unset E is = enc0 st0) (i : Nat) {x : Str} {kvs : List (Key × Val)} (hn : Nm N sc i x) (he : E[i]? = some (.fz (.dic kvs)))
    (hb : ∀ st x, Tb X (enc0 st) (.Tuple elts kk tpos) x body (step st x) (encL enc0 tv)) (hl : (ap.endLine == cp.line) = true := by rfl) :
    St1 X E (.For (.Tuple elts kk tpos) (.Call (.Attribute (.Name x p) "items" ap) [] [] cp) body [] pos) (Mon.nx (forM' step (itemsV kvs) st0)) (encL enc0 tv) :=
  st_forD (items := itemsV) c enc0 tv is st0 hE he (pi_items (c.pv hn) rfl hl) (fun σ H R a o vs h1 h2 h3 => ⟨_, h1, a, o, vs, rfl, h2, h3⟩) (fun κ G a o vs kvs h t => itR_items h t) hb (by intros; rfl)
theorem st_forKeys (c : Ctx X N sc k) {τ : Type} {tg : Expr} {p pos : Pos} {body : List Stmt} {step : ρ → Val → m (Fl ρ τ)} (enc0 : ρ → Env) (tv : τ → Val) (is : List Nat) (st0 : ρ) (hE : unset E is = enc0 st0) (i : Nat) {x : Str} {kvs : List (Key × Val)} (hn : Nm N sc i x) (he : E[i]? = some (.fz (.dic kvs)))
    (hb : ∀ st x, Tb X (enc0 st) tg x body (step st x) (encL enc0 tv)) :
    St1 X E (.For tg (.Name x p) body [] pos) (Mon.nx (forM' step (keysV kvs) st0)) (encL enc0 tv) :=
  st_forD (items := keysV) c enc0 tv is st0 hE he (pi_keys (c.pv hn)) (fun σ H R a o vs h1 h2 h3 => ⟨_, h1, a, o, rfl, .inl ⟨vs, h2, h3⟩⟩) (fun κ G a o vs kvs h t => itR_keys h t) hb (by intros; rfl)
theorem st_forValues (c : Ctx X N sc k) {τ : Type} {tg : Expr} {p ap cp pos : Pos} {body : List Stmt} {step : ρ → Val → m (Fl ρ τ)} (enc0 : ρ → Env) (tv : τ → Val) (is : List Nat) (st0 : ρ) (hE : unset E is = enc0 st0) (i : Nat) {x : Str} {kvs : List (Key × Val)} (hn : Nm N sc i x) (he : E[i]? = some (.fz (.dic kvs)))
    (hb : ∀ st x, Tb X (enc0 st) tg x body (step st x) (encL enc0 tv)) (hl : (ap.endLine == cp.line) = true := by rfl) :
    St1 X E (.For tg (.Call (.Attribute (.Name x p) "values" ap) [] [] cp) body [] pos) (Mon.nx (forM' step (valuesV kvs) st0)) (encL enc0 tv) :=
  st_forD (items := valuesV) c enc0 tv is st0 hE he (pi_values (c.pv hn) rfl hl) (fun σ H R a o vs h1 h2 h3 => ⟨_, h1, a, o, vs, rfl, h2, h3⟩) (fun κ G a o vs kvs h t => itR_values h t) hb (by intros; rfl)
/-- an owned dict is changed no more -/
theorem sx_freezeD {Ks : List (List Stmt)} (i : Nat) {ss : List Stmt} {r : m ρ} {kvs : List (Key × Val)} (he : E[i]? = some (.od kvs)) (h : Sx X (E.set i (.fz (.dic kvs))) ss Ks r enc) : Sx X E ss Ks r enc := by
  intro B0 S κ G σ H sat W tk D q
  obtain ⟨G', s1⟩ := sat.freezeD he
  exact h B0 S κ G' σ H s1 W tk D q
/-! ### k in d, d.get(k), d[k] -/
def oInD (x y : Val) : Res Val := match y with
  | .dic kvs => match asKey x with
    | some k => .ok (.bl (valD kvs k).isSome)
    | none => .stuck
  | _ => oIn x y
def oNotInD (x y : Val) : Res Val := match y with
  | .dic kvs => match asKey x with
    | some k => .ok (.bl (!(valD kvs k).isSome))
    | none => .stuck
  | _ => oNotIn x y
theorem dget_of {K : PySem.W.Frag} {mg : Str → Option Value} {κ : List Addr} {G H : Hp} {a : Addr} {kvs : List (Key × Val)} {vs : List (Key × V)} {x : Val} {v : V} {k : Key} (l : Le G H) (hr : Rd G a (.dK vs)) (ha : asKey x = some k) (rx : Rep K mg κ G x v) : DGet H a v (valV vs k) := .inl ⟨vs, k, l.rd hr, asKey_rep ha rx, rfl⟩
theorem val_isSome {K : PySem.W.Frag} {mg : Str → Option Value} {κ : List Addr} {G : Hp} {kvs : List (Key × Val)} {vs : List (Key × V)} (t : RepD K mg κ G kvs vs) (k : Key) : (valV vs k).isSome = (valD kvs k).isSome := by
  rcases t.val (k := k) with ⟨x, v, e1, e2, _⟩ | ⟨e1, e2⟩
  · rw [e1, e2]; rfl
  · rw [e1, e2]; rfl
theorem o_inD (c : Ctx X N sc k) : Op2 X (compareOp .In) oInD := by
  intro κ G H S x y v u Q W w rx ry h
  unfold oInD at h
  split at h
  · split at h
    · rename_i kvs _ j hj
      obtain ⟨a, vs, ev, hr, t⟩ := rep_dic ry
      subst ev
      intro pins s σ v' u' I rv ru
      obtain rfl : u' = Value.ref a := ru
      exact d_in (by have := c.room.un; omega) I (dget_of (kvs := kvs) w.le hr hj rx) rv fun s' I' => ⟨.bl _, H, I', rfl, h.okR w (by rw [val_isSome t]; exact repB _)⟩
    · exact h.elim
  · exact o_in c κ G H S x y v u Q W w rx ry h
theorem o_notInD (c : Ctx X N sc k) : Op2 X (compareOp .NotIn) oNotInD := by
  intro κ G H S x y v u Q W w rx ry h
  unfold oNotInD at h
  split at h
  · split at h
    · rename_i kvs _ j hj
      obtain ⟨a, vs, ev, hr, t⟩ := rep_dic ry
      subst ev
      intro pins s σ v' u' I rv ru
      obtain rfl : u' = Value.ref a := ru
      exact d_notIn (by have := c.room.un; omega) I (dget_of (kvs := kvs) w.le hr hj rx) rv fun s' I' => ⟨.bl _, H, I', rfl, h.okR w (by rw [val_isSome t]; exact repB _)⟩
    · exact h.elim
  · exact o_notIn c κ G H S x y v u Q W w rx ry h
def asDic : Val → Res (List (Key × Val))
  | .dic kvs => .ok kvs
  | _ => .stuck
def getD (kvs : List (Key × Val)) (y : Val) : Res Val := match asKey y with
  | some k => .ok ((valD kvs k).getD .non)
  | none => .stuck
/-- d.get(k) -/
theorem ev_get (c : Ctx X N sc k) {o e : Expr} {ap cp : Pos} {ro re : m Val} (ho : Ev X E o ro) (he : Ev X E e re) (hbase : ∀ env, attributeBase o "get" env (eval o env) = eval o env) (hs : notStar e = true := by rfl) (hl : (ap.endLine == cp.line) = true := by rfl) :
    Ev X E (.Call (.Attribute o "get" ap) [e] [] cp) (ro >>= fun x => Mon.of (asDic x) >>= fun kvs => re >>= fun y => Mon.of (getD kvs y)) := by
  intro B0 S κ G σ H sat W tk Q q
  have tr : starEach [e] X.env = [(false, eval e X.env)] := by rw [star_of hs]; rfl
  refine we_of (pe_dget1 (by have := c.room.un; omega) pe_self pe_self ⟨hbase _, by rw [tr]; rfl, hl, by rw [tr]; rfl⟩) ?_
  refine ho B0 S κ G σ H sat W tk _ (bindW q fun x v κ1 G1 H1 S1 e1 r1 h1 => ?_)
  have sat1 := sat.ext e1.weak
  rw [Mon.run_bind, Mon.run_of] at h1
  cases x with
  | dic kvs =>
    have h1 : Post X.K X.mg (Mon.pu m) (Rep X.K X.mg) κ1 G1 H1 S1 (Mon.run (re >>= fun y => Mon.of (getD kvs y)) S1) Q (fun c d H' => W c d σ H') := h1
    obtain ⟨a, vs, ev, hr, t⟩ := rep_dic r1
    subst ev
    refine ⟨a, rfl, .inl ⟨vs, e1.e.w.le.rd hr⟩, ?_⟩
    refine he B0 S1 κ1 G1 σ H1 sat1 W tk _ (bindW h1 fun y u κ2 G2 H2 S2 e2 r2 h2 => ?_)
    have h3 := h2.ofOk
    unfold getD at h3
    split at h3
    · rename_i j hj
      have hr2 := e2.e.le.rd hr
      refine ⟨_, dget_of (kvs := kvs) e2.e.w.le hr2 hj r2, h3.okR e2.e.w ?_⟩
      rcases t.val (k := j) with ⟨z, w, q1, q2, q3⟩ | ⟨q1, q2⟩
      · rw [q1, q2]; exact q3.mono e2.e.pre e2.e.le
      · rw [q1, q2]; exact repN
    · exact h3.elim
  | _ => exact h1.elim
end
end Tv

/-! sorted(set(xs)); keywords; try; moves -/
namespace Tv
open PySem PySem.Spec PyProof.Rows L2

def dedupI : List Int → List Int
  | [] => []
  | i :: is => if i ∈ dedupI is then dedupI is else i :: dedupI is
theorem dedupI_mem (x : Int) : ∀ is, x ∈ dedupI is ↔ x ∈ is
  | [] => Iff.rfl
  | i :: is => by
    unfold dedupI
    split
    · rw [dedupI_mem x is, List.mem_cons]
      rename_i h
      rw [dedupI_mem i is] at h
      exact ⟨.inr, fun z => z.elim (fun e => e ▸ h) id⟩
    · rw [List.mem_cons, List.mem_cons, dedupI_mem x is]
theorem dedupI_nodup : ∀ is, (dedupI is).Nodup
  | [] => .nil
  | i :: is => by
    unfold dedupI
    split
    · exact dedupI_nodup is
    · exact List.nodup_cons.mpr ⟨by assumption, dedupI_nodup is⟩
theorem perm_nodup : ∀ {as bs : List Int}, as.Nodup → bs.Nodup → (∀ x, x ∈ as ↔ x ∈ bs) → as.Perm bs
  | [], bs, _, _, h => by
    cases bs with
    | nil => exact .refl _
    | cons b bs => exact absurd ((h b).mpr List.mem_cons_self) (by simp)
  | a :: as, bs, h1, h2, h => by
    obtain ⟨na, h1⟩ := List.nodup_cons.mp h1
    have ma : a ∈ bs := (h a).mp List.mem_cons_self
    have p := List.perm_cons_erase ma
    refine (List.Perm.cons a (perm_nodup h1 (h2.erase a) fun x => ?_)).trans p.symm
    constructor
    · intro hx
      have xa : x ≠ a := fun e => na (e ▸ hx)
      exact (List.mem_erase_of_ne xa).mpr ((h x).mp (List.mem_cons_of_mem _ hx))
    · intro hx
      have xa : x ≠ a := fun e => by
        subst e
        exact (List.Nodup.not_mem_erase h2) hx
      rcases List.mem_cons.mp ((h x).mpr (List.mem_of_mem_erase hx)) with e | e
      · exact absurd e xa
      · exact e
def fSortedSet : Val → Res Val
  | .lst xs => match intsV xs with
    | some ns => if ns.length + 1 < scanBound ∧ (dedupI ns).length < 64 then .ok (.lst ((sortI (dedupI ns)).map .int)) else .stuck
    | none => .stuck
  | _ => .stuck
section
variable {X : Cx} {N : List Str} {sc : Scope} {k : Nat} {E : Env} {m : Type → Type} [Mon m] {ρ : Type} {enc : ρ → Out} {rest : List Stmt} {Ks : List (List Stmt)}
theorem ev_sortedSet (c : Ctx X N sc k) {a : Expr} {p p2 q pos : Pos} {r : m Val} (hg : glB sc "sorted" = true) (hm : X.mg "sorted" = none) (hg2 : glB sc "set" = true) (hm2 : X.mg "set" = none) (h : Ev X E a r) (hs : notStar a = true := by rfl) :
    Ev X E (.Call (.Name "sorted" p) [.Call (.Name "set" p2) [a] [] q] [] pos) (r >>= fun x => Mon.of (fSortedSet x)) := by
  intro B0 S κ G σ H sat W tk Q hq
  refine ⟨fun pins s I => ?_⟩
  have na : starEach [a] X.env = (false, eval a X.env) :: starEach [] X.env := star_of hs [] X.env
  refine Call_ (ld_blt I (c.gl hg).1 hm PyProof.Rows.boot_sorted ?_)
  refine PyProof.Rows.callWith_builtin1 (PyProof.Rows.args_cons ?_ rfl) rfl rfl
  refine Call_ (ld_blt I (c.gl hg2).1 hm2 PyProof.Rows.boot_set ?_)
  refine PyProof.Rows.callWith_type1 (PyProof.Rows.args_cons (thn ((h B0 S κ G σ H sat W tk _ (bindP (R := Rep X.K X.mg) hq)).run pins s I) fun u s1 ⟨v, H1, I1, r1, x, κ1, G1, S1, e1, rx, h1⟩ => PyProof.Rows.args_nil ?_) na) na rfl
  have h2 := h1.ofOk
  unfold fSortedSet at h2
  split at h2
  · split at h2
    · split at h2
      · rename_i ns hns hz
        obtain ⟨ad, vs, ev, hq, t⟩ := rep_lst rx
        subst ev
        cases r1
        have evs := ints_rep hns t
        subst evs
        obtain ⟨its, rv, pl, hsz⟩ := I1.list (.inl (.inl (e1.e.w.le _ _ hq)))
        refine call_set_ints ns (I1.ok.hd c.calm) pl.isList (by simpa using rv.ints) hz.1 fun s2 fl => ?_
        obtain ⟨h', tk', n, e2, R, hk⟩ := fl
        subst e2
        refine PyProof.Rows.args_nil ?_
        have cardn : n = (dedupI ns).length := by
          obtain ⟨o, es, ep, t', _, _, _, _, nd, hm', _, _, hn, _⟩ := R
          have pm : (es.toList.map keyOf).Perm (dedupI ns) := perm_nodup nd (dedupI_nodup ns) fun x => by
            rw [← hm' x, dedupI_mem]
            exact decide_eq_true_iff
          have := pm.length_eq
          rw [List.length_map, Array.length_toList] at this
          rw [← hn, this]
        have I2 : L2.Inv X pins σ H1 { s1 with heap := h', toks := tk' } := I1.kept (t' := tk') hk
        obtain ⟨s2, es2⟩ : ∃ s2 : Shared, s2 = { s1 with heap := h', toks := tk' } := ⟨_, rfl⟩
        have eh : s2.heap = h' := by rw [es2]
        rw [← es2] at I2 ⊢
        rw [← eh] at R
        refine sorted_set R (by simpa using I1.ok.hd c.calm) (by rw [cardn]; exact hz.2) fun s3 p out cc ms hk3 hg3 ho3 hp3 hs3 hi3 hw3 hm3 hl3 => ?_
        have pm : ms.Perm (dedupI ns) := perm_nodup (hw3.imp fun h e => by omega) (dedupI_nodup ns) fun x => by
          rw [hm3 x, dedupI_mem]
          exact decide_eq_true_iff
        have ems : ms = sortI (dedupI ns) := sorted_eq pm (hw3.imp fun h => Int.le_of_lt h)
        have hlen : (ms.map V.int).length ≤ sizeLine := by rw [List.length_map, hl3, cardn, sizeLine_eq]; omega
        have hn : H1 p = none := I2.hok.fresh hp3
        have J : L2.Inv X pins σ (L2.upd H1 p (.lst (ms.map V.int))) { s2 with heap := s3.heap, gens := s3.gens, drawn := s3.drawn, toks := s3.toks } :=
          I2.call (ch := []) (Un.laid hk3 hp3 hn) (I2.hok.laid hk3 hp3 ⟨hlen, out.toList, cc, vals_of_ints hi3, hs3⟩) (by rw [hg3]; exact I2.bare) (fun _ z => nomatch z)
        have e : s3 = { s2 with heap := s3.heap, gens := s3.gens, drawn := s3.drawn, toks := s3.toks } := by
          cases s3
          cases ho3
          rfl
        rw [e]
        refine ⟨.ref p, _, J, rfl, ?_⟩
        rw [ems]
        exact new_lst e1.e.w hn (rep_ints _) h2
      · exact h2.elim
    · exact h2.elim
  · exact h2.elim
/-! ### keywords -/
def pickL {α : Type} (d : α) (is : List Nat) (xs : List α) : List α := is.map fun i => xs.getD i d
theorem RepL.pick {K : PySem.W.Frag} {mg : Str → Option Value} {κ : List Addr} {G : Hp} {xs : List Val} {vs : List V} (h : RepL K mg κ G xs vs) : ∀ is : List Nat, RepL K mg κ G (pickL .non is xs) (pickL .non is vs)
  | [] => .nil
  | i :: is => by
    refine .cons ?_ (RepL.pick h is)
    show Rep K mg κ G (xs.getD i Val.non) (vs.getD i V.non)
    rw [List.getD_eq_getElem?_getD, List.getD_eq_getElem?_getD]
    cases e : xs[i]? with
    | none =>
      have : vs[i]? = none := by
        rw [List.getElem?_eq_none_iff] at e ⊢
        rw [h.length]; exact e
      rw [this]; exact repN
    | some x =>
      obtain ⟨v, hv, r⟩ := h.get e
      rw [hv]; exact r
theorem Vals.length' {vs : List V} {us : List Value} (r : Vals vs us) : vs.length = us.length := r.length
theorem Vals.pick {vs : List V} {us : List Value} (h : Vals vs us) : ∀ is : List Nat, Vals (pickL .non is vs) (pickL .none is us)
  | [] => .nil
  | i :: is => by
    refine .cons ?_ (Vals.pick h is)
    show L2.RelV (vs.getD i V.non) (us.getD i Value.none)
    rw [List.getD_eq_getElem?_getD, List.getD_eq_getElem?_getD]
    cases e : vs[i]? with
    | none =>
      have : us[i]? = none := by
        rw [List.getElem?_eq_none_iff] at e ⊢
        rw [← h.length]; exact e
      rw [this]; exact rfl
    | some x =>
      obtain ⟨v, hv, r⟩ := h.get e
      rw [hv]; exact r
structure WK (X : Cx) (kws : List Keyword) (σ : L2.St) (H : Hp) (Q : List V → Hp → Prop) : Prop where
  run : ∀ (pos : Pos) (pins : List (Addr × Obj)) (s : Shared), L2.Inv X pins σ H s → wpAny (model X.prog X.w) X.A (evalAll ((backToKw pos (keywordEach kws X.env)).map (·.2))) (AP X pins σ Q) X.xe s
theorem pk_self {kws : List Keyword} : PK X kws (WK X kws) := ⟨fun pos pins s _ _ _ I h => h.run pos pins s I⟩
theorem wk_of {kws : List Keyword} {t : TA} (h : PK X kws t) {σ : L2.St} {H : Hp} {Q : List V → Hp → Prop} (q : t σ H Q) : WK X kws σ H Q := ⟨fun pos pins s I => h.run pos pins s σ H Q I q⟩
/-- keywords' values -/
def Ek (X : Cx) (E : Env) (kws : List Keyword) (r : m (List Val)) : Prop :=
  ∀ B0 S κ G σ H, Sat X.K X.mg false B0 E S κ G σ H → ∀ W : WX, Takes X W → ∀ Q : List V → Hp → Prop, Post X.K X.mg (Mon.pu m) (RepL X.K X.mg) κ G H S (Mon.run r S) Q (fun c d H' => W c d σ H') → WK X kws σ H Q
theorem ek_nil : Ek X E [] (Pure.pure [] : m (List Val)) := by
  intro B0 S κ G σ H sat W tk Q q
  exact wk_of pk_nil (Post.pure (m := m) q sat.w .nil)
theorem ek_cons {nm : Option Str} {kpos : Pos} {e : Expr} {kws : List Keyword} {r : m Val} {rs : m (List Val)} (h : Ev X E e r) (h2 : Ek X E kws rs) : Ek X E (⟨nm, e, kpos⟩ :: kws) (r >>= fun x => rs >>= fun xs => Pure.pure (x :: xs)) := by
  intro B0 S κ G σ H sat W tk Q q
  refine wk_of (pk_cons pe_self pk_self) ?_
  refine h B0 S κ G σ H sat W tk _ (bindW q fun x v κ1 G1 H1 S1 e1 r1 h1 => ?_)
  refine h2 B0 S1 κ1 G1 σ H1 (sat.ext e1.weak) W tk _ (bindW h1 fun xs vs κ2 G2 H2 S2 e2 r2 h3 => ?_)
  exact Post.pure (m := m) h3 e2.e.w (.cons (r1.mono e2.e.pre e2.e.le) r2)
/-- a call binds: p plain values, the keywords ks, in the parameters' order by is -/
def KwB (K : PySem.W.Frag) (fd : FuncData) (ps ks : List Str) (p : Nat) (is : List Nat) : Prop :=
  ∀ (s : Shared) (us ws : List Value), K.In s.heap → us.length = p → ws.length = ks.length → BindsTo s fd ⟨us, ks.zip ws⟩ (ps.zip (pickL .none is (us ++ ws)))
variable {j : Nat} {f : Addr} {fd : FuncData} {ps ks : List Str} {g : List Val → m Val}
def chkN (p q : Nat) (xs zs : List Val) : Res Unit := if xs.length = p ∧ zs.length = q then .ok () else .stuck
theorem runGK {pins : List (Addr × Obj)} {σ : L2.St} {H : Hp} {s : Shared} {Q : VK} {us ws : List Value} {vs zs : List V} {κ : List Addr} {G : Hp} {S : Cells} {xs ys : List Val} {W : WX} {p : Nat} {is : List Nat} (c : Ctx X N sc k) (F : FnG X.prog X.w X.K X.mg X.base j f fd ps g) (hj : j ≤ k) (hb : KwB X.K fd ps ks p is) (tk : Takes X W)
    (I : L2.Inv X pins σ H s) (r : Vals vs us) (rz : Vals zs ws) (wd : Wd X.K X.mg κ G H S) (rl : RepL X.K X.mg κ G xs vs) (rl2 : RepL X.K X.mg κ G ys zs) (h1 : xs.length = p) (h2 : ys.length = ks.length) (h : Post X.K X.mg (Mon.pu m) (Rep X.K X.mg) κ G H S (Mon.run (g (pickL .non is (xs ++ ys))) S) Q (fun c d H' => W c d σ H')) :
    wpAny (model X.prog X.w) X.A (call (.ref f) us (ks.zip ws)) (EP X pins σ Q) X.xe s := by
  have rr := (rl.append rl2).pick is
  have rv := Vals.pick (Vals.append r rz) is
  have hl : (pickL V.non is (vs ++ zs)).length = ps.length := by
    rw [rr.length]
    by_cases e : (pickL Val.non is (xs ++ ys)).length = ps.length
    · exact e
    · rw [F.len _ e, Mon.run_of] at h
      exact h.elim
  have bt := hb s us ws I.kIn (by rw [← r.length, rl.length]; exact h1) (by rw [← rz.length, rl2.length]; exact h2)
  refine wpAny_call (codeAny_mono (F.run X.A X.stack s H ⟨us, ks.zip ws⟩ _ _ Q (fun c d H' => W c d σ H') κ G S _ (c.room.mono hj) c.gd I.env0 bt rv hl wd rr h) fun fl s' q => ?_)
  cases fl with
  | error e => exact tk e s' (XE.of_call I (fun _ _ _ z => z) q)
  | ok z =>
    cases z with
    | ret u => exact I.after q
    | next => exact q.elim
    | brk => exact q.elim
    | cont => exact q.elim
/-- f(k = e, ..) -/
theorem ev_callK0 (c : Ctx X N sc k) {x : Str} {p pos : Pos} {kws : List Keyword} {rk : m (List Val)} {is : List Nat} (F : FnG X.prog X.w X.K X.mg X.base j f fd ps g) (hj : j ≤ k) (hb : KwB X.K fd ps ks 0 is) (hg : glB sc x = true) (hm : X.mg x = some (.ref f)) (hk : PySem.W.keepIn X.K (.ref f) = true)
    (ha : Ek X E kws rk) (hall : ∀ env, (backToKw pos (keywordEach kws env)).all (·.1.isSome) = true) (hks : ∀ env, (backToKw pos (keywordEach kws env)).filterMap (·.1) = ks) (hpl : ∀ env, ((backTo pos (starEach [] env)).any (·.1) || (backToKw pos (keywordEach kws env)).any (·.1.isNone)) = false) :
    Ev X E (.Call (.Name x p) [] kws pos) (rk >>= fun zs => Mon.of (chkN 0 ks.length [] zs) >>= fun _ => g (pickL .non is zs)) := by
  intro B0 S κ G σ H sat W tk Q q
  obtain ⟨g1, g2, _⟩ := c.gl hg
  refine ⟨fun pins s I => ?_⟩
  refine wpAny_Call_Name_kw (ld_glob I g1 hm ?_ g2)
  refine PySem.W.callWith_KW0 (h₀ := X.base) I.ok.mod.kin hk (hall _) (thn ((ha B0 S κ G σ H sat W tk _ (bindP (R := RepL X.K X.mg) q)).run pos pins s I) fun ws s1 ⟨zs, H1, I1, r, ys, κ1, G1, S1, w1, r1, h1⟩ => ⟨I1.kIn, ?_⟩) (hpl _)
  rw [hks]
  rw [Mon.run_bind, Mon.run_of] at h1
  unfold chkN at h1
  split at h1
  · rename_i hh
    have h1 : Post X.K X.mg (Mon.pu m) (Rep X.K X.mg) κ1 G1 H1 S1 (Mon.run (g (pickL .non is ys)) S1) Q (fun c d H' => W c d σ H') := h1
    exact runGK (us := []) (vs := []) (xs := []) c F hj hb tk I1 .nil r w1.e.w .nil r1 rfl hh.2 h1
  · exact h1.elim
/-- f(e, .., k = e, ..) -/
theorem ev_callK (c : Ctx X N sc k) {x : Str} {p pos : Pos} {e : Expr} {es : List Expr} {kws : List Keyword} {rs rk : m (List Val)} {n : Nat} {is : List Nat} (F : FnG X.prog X.w X.K X.mg X.base j f fd ps g) (hj : j ≤ k) (hb : KwB X.K fd ps ks n is) (hg : glB sc x = true) (hm : X.mg x = some (.ref f)) (hk : PySem.W.keepIn X.K (.ref f) = true)
    (ha : Ea X E (e :: es) rs) (hkw : Ek X E kws rk) (hall : ∀ env, (backToKw pos (keywordEach kws env)).all (·.1.isSome) = true) (hks : ∀ env, (backToKw pos (keywordEach kws env)).filterMap (·.1) = ks) (hkn : ∀ env, (backToKw pos (keywordEach kws env)).any (·.1.isNone) = false) (hs : noStars (e :: es) = true := by rfl) :
    Ev X E (.Call (.Name x p) (e :: es) kws pos) (rs >>= fun xs => rk >>= fun zs => Mon.of (chkN n ks.length xs zs) >>= fun _ => g (pickL .non is (xs ++ zs))) := by
  intro B0 S κ G σ H sat W tk Q q
  obtain ⟨g1, g2, _⟩ := c.gl hg
  obtain ⟨s1, s2⟩ := Bool.and_eq_true_iff.mp hs
  refine ⟨fun pins s I => ?_⟩
  refine wpAny_Call_Name_kw (ld_glob I g1 hm ?_ g2)
  refine PySem.W.callWith_KW (h₀ := X.base) I.ok.mod.kin hk (hall _) (thn ((ha B0 S κ G σ H sat W tk _ (bindP (R := RepL X.K X.mg) q)).run pos pins s I) fun us s1 ⟨vs, H1, I1, r, xs, κ1, G1, S1, w1, r1, h1⟩ => ?_) (by rw [plain_of hs, hkn]; rfl) (star_of s1 es X.env)
  refine thn ((hkw B0 S1 κ1 G1 σ H1 (sat.ext w1.weak) W tk _ (bindP (R := RepL X.K X.mg) h1)).run pos pins s1 I1) fun ws s2 ⟨zs, H2, I2, rz, ys, κ2, G2, S2, w2, r2, h2⟩ => ⟨I2.kIn, ?_⟩
  rw [hks]
  rw [Mon.run_bind, Mon.run_of] at h2
  unfold chkN at h2
  split at h2
  · rename_i hh
    have h2 : Post X.K X.mg (Mon.pu m) (Rep X.K X.mg) κ2 G2 H2 S2 (Mon.run (g (pickL .non is (xs ++ ys))) S2) Q (fun c d H' => W c d σ H') := h2
    exact runGK c F hj hb tk I2 r rz w2.e.w (r1.mono w2.e.pre w2.e.le) r2 hh.1 hh.2 h2
  · exact h2.elim
/-! ### try: nothing is raised -/
theorem Ctx.nox (c : Ctx X N sc k) : Ctx X.nox N sc k := ⟨c.n, c.sc, c.calm, c.nd, c.gd, c.room, PassesOwn.never⟩
theorem CtxF.nox (c : CtxF X N sc k) : CtxF X.nox N sc k := ⟨c.toCtx.nox, c.fn⟩
theorem st_tryN (c : Ctx X N sc k) {body : List Stmt} {h : ExceptHandler} {hs : List ExceptHandler} {pos : Pos} {r : m ρ} (hb : Sx X.nox E body [] r enc) : St1 X E (.Try body (h :: hs) [] [] pos) (Mon.nx r) enc := by
  intro B0 S κ G σ H sat W tk D q
  rw [Mon.run_nx] at q
  obtain ⟨y, S2, ey, py⟩ := noExn_post q
  refine ws_of (ps_try_thru0 pss_self) ?_
  refine hb B0 S κ G σ H sat (fun _ _ _ _ => False) takesF D ?_
  rw [ey]
  exact py
/-! ### x = y, what y owned goes over -/
theorem Sat.move {K : PySem.W.Frag} {mg : Str → Option Value} {b : Bool} {B0 : Bs} {κ : List Addr} {G H : Hp} {S : Cells} {σ : L2.St} (h : Sat K mg b B0 E S κ G σ H) {i j : Nat} {s : Slot} {a : Addr} (he : E[j]? = some s) (hσ : σ[j]? = some (some (.ref a))) (hi : i < E.length) (hij : i ≠ j) : Sat K mg b B0 ((E.set j .un).set i s) S κ G (σ.set i (some (.ref a))) H := by
  obtain ⟨x, L, so, nd, q⟩ := h
  have hs : j < σ.length := (List.getElem?_eq_some_iff.mp hσ).1
  have key : ∀ {E : Env} {σ : L2.St} {L : List Addr} {j : Nat}, SlotsOk K mg κ G H E σ L → L.Nodup → E[j]? = some s → σ[j]? = some (some (.ref a)) → ∃ L1 L2, SlotOk K mg κ G H s (some (.ref a)) L1 ∧ SlotsOk K mg κ G H (E.set j .un) σ L2 ∧ L1.Nodup ∧ L2.Nodup ∧ (∀ c ∈ L1, c ∈ L) ∧ (∀ c ∈ L2, c ∈ L) ∧ (∀ c ∈ L1, c ∉ L2) := by
    intro E
    induction E with
    | nil => intro σ L j _ _ e; simp at e
    | cons s0 E ih =>
      intro σ L j so nd e eo
      obtain ⟨ov, r, L1, Lr, z1, z2, g1, g2⟩ := so
      subst z1 z2
      obtain ⟨n1, n2, n3⟩ := List.nodup_append.mp nd
      cases j with
      | zero =>
        simp at e eo; subst e eo
        exact ⟨L1, Lr, g1, ⟨some (.ref a), r, [], Lr, rfl, rfl, rfl, g2⟩, n1, n2, fun c m => by simp [m], fun c m => by simp [m], fun c m m' => n3 c m c m' rfl⟩
      | succ j =>
        obtain ⟨M1, M2, w1, w2, w3, w4, w5, w6, w7⟩ := ih g2 n2 (by simpa using e) (by simpa using eo)
        refine ⟨M1, L1 ++ M2, w1, ⟨ov, r, L1, M2, rfl, rfl, g1, w2⟩, w3, List.nodup_append.mpr ⟨n1, w4, fun c m d m' e' => n3 c m d (w6 d m') e'⟩, fun c m => by simp [w5 c m], fun c m => ?_, fun c m m' => ?_⟩
        · rcases List.mem_append.mp m with m | m
          · simp [m]
          · simp [w6 c m]
        · rcases List.mem_append.mp m' with m' | m'
          · exact n3 c m' c (w5 c m) rfl
          · exact w7 c m m'
  obtain ⟨L1, L2, w1, w2, w3, w4, w5, w6, w7⟩ := key so nd he hσ
  obtain ⟨L3, s3, n3, m3⟩ := w2.set (i := i) (s := s) (ov := some (.ref a)) (L1 := L1) (by simpa using hi) w1
  refine ⟨x, L3, s3, n3 w7 w3 w4, fun c m => ?_⟩
  rcases m3 c m with m | m
  · exact q c (w6 c m)
  · exact q c (w5 c m)
/-- x = y, y an owned dict -/
theorem sx_moveD (c : CtxF X N sc k) (i j : Nat) {x y : Str} {p p2 pos : Pos} {kvs : List (Key × Val)} {r : m ρ} (hl : Lk N sc i x) (hn : Nm N sc j y) (he : E[j]? = some (.od kvs)) (hi : i < E.length) (hij : i ≠ j) (hr : Sx X ((E.set j .un).set i (.od kvs)) rest Ks r enc) : Sx X E (.Assign [.Name x p] (.Name y p2) pos :: rest) Ks r enc := by
  intro B0 S κ G σ H sat W tk D q
  obtain ⟨h1, h2⟩ := hl.n
  refine wss_of (pss_cons (ps_set (i := i) (by rw [c.n]; exact c.nd) (by rw [c.n]; exact h1) (by rw [c.sc]; exact h2) (c.pv hn) (swaps_of rfl _ _ _) (.inl (c.fn _))) (pss_self (e := rest))) ?_
  obtain ⟨a, vs, hσ, hH, rl, _, _⟩ := sat.setOD (ys := kvs) he
  exact ⟨.ref a, hσ, hr B0 S κ G _ H (sat.move he hσ hi hij) W tk D q⟩
theorem sx_moveL (c : CtxF X N sc k) (i j : Nat) {x y : Str} {p p2 pos : Pos} {xs : List Val} {r : m ρ} (hl : Lk N sc i x) (hn : Nm N sc j y) (he : E[j]? = some (.o1 xs)) (hi : i < E.length) (hij : i ≠ j) (hr : Sx X ((E.set j .un).set i (.o1 xs)) rest Ks r enc) : Sx X E (.Assign [.Name x p] (.Name y p2) pos :: rest) Ks r enc := by
  intro B0 S κ G σ H sat W tk D q
  obtain ⟨h1, h2⟩ := hl.n
  refine wss_of (pss_cons (ps_set (i := i) (by rw [c.n]; exact c.nd) (by rw [c.n]; exact h1) (by rw [c.sc]; exact h2) (c.pv hn) (swaps_of rfl _ _ _) (.inl (c.fn _))) (pss_self (e := rest))) ?_
  obtain ⟨a, vs, hσ, hH, rl, _⟩ := sat.setO1 (ys := xs) he
  exact ⟨.ref a, hσ, hr B0 S κ G _ H (sat.move he hσ hi hij) W tk D q⟩
end
end Tv

section
set_option maxHeartbeats 1000000
/-! a def by its facts; the law's end -/
namespace Tv
open PySem PySem.Spec PyProof.Rows L2

section
variable {P : Program} {w : World} {K : PySem.W.Frag} {mg : Str → Option Value} {base : Heap} {x qual : Str} {params : Arguments} {body : List Stmt} {scope : Scope} {dvs : List V} {kws : List (Str × V)} {f : Addr} {fd : FuncData} {m : Type → Type} [Mon m]
theorem FnG.toM {P : Program} {w : World} {K : PySem.W.Frag} {mg : Str → Option Value} {base : Heap} {k : Nat} {f : Addr} {fd : FuncData} {ps : List Str} {g : List Val → Res Val} (F : FnG P w K mg base k f fd ps g) : FnG P w K mg base k f fd ps (fun xs => (Mon.of (g xs) : M Val)) where
  len := fun xs h => by rw [F.len xs h]; rfl
  run := fun A outer s H args us vs Q E κ G S xs hr hg e0 hb r hl wd rl hp => F.run A outer s H args us vs Q E κ G S xs hr hg e0 hb r hl wd rl (Post.ofOk (m := M) hp)
theorem okG {N ps : List Str} {k : Nat} {g : List Val → m Val} (F : FunD K x qual params body scope dvs kws f fd) (S : FnScope N ps scope) (hlen : ∀ xs, xs.length ≠ ps.length → g xs = Mon.of .stuck)
    (hb : ∀ (cdv : Value) (A : Around) (outer : List PySem.Env) (s : Shared) (H : Hp) (E : XK) (xs : List Val), CtxF (cxOf (L2.CX P w) P w K mg base N qual scope f cdv A outer s H E) N scope k → xs.length = ps.length →
      Sx (cxOf (L2.CX P w) P w K mg base N qual scope f cdv A outer s H E) (startE N xs) body [] (g xs) .rr) : FnG P w K mg base (k + 1) f fd ps g := by
  obtain ⟨oc, od, dV, kV, doc, pm, an, cdv, ct, osl, e, lk, hcd, _, _⟩ := F.ex
  subst e
  exact fnG_of lk hcd S hlen fun A outer s H E xs c hl => hb cdv A outer s H E xs c hl
end
/-- what the law's call comes to: True, and nothing old is changed -/
def LawOk (s₁ : Shared) (r : Result) (s' : Shared) : Prop := r = .ok (.ret (.bool true)) ∧ OldK s₁.heap s'.heap ∧ s'.os = s₁.os ∧ AllBare s'.gens
section
variable {P : Program} {w : World} {K : PySem.W.Frag} {mg mb : Str → Option Value} {k : Nat} {fa a : Addr} {fd : FuncData} {x : Str} {m : Type → Type} [Mon m] {g : List Val → m Val} {s₁ : Shared} {vs : List Value} {ns : List Int}
/-- the call, with H what is tracked at its start -/
theorem law_at {H : Hp} {base : Heap} (hr : Room k callerA) (hg : s₁.gens = #[]) (hO : Only H) (hS : SqL K H a (ns.map V.int)) (hok : HOk P w H s₁.heap) (hM : Mod K mg base) (hbase : ∀ b o, base.get? b = some o → s₁.heap.get? b = some o ∧ H b = none) (hsz : base.objs.size ≤ s₁.heap.objs.size)
    (F : FnG P w K mg base k fa fd [x] g) (hbind : ∀ (s : Shared) (u : Value), BindsTo s fd ⟨[u], []⟩ [(x, u)]) (hres : ∃ S', Mon.run (g [.scr (ns.map .int)]) [] = (.ok (.bl true), S')) :
    codeAny (model P w) callerA (.call (.ref fa) ⟨[.ref a], []⟩) (LawOk s₁) s₁ := by
  obtain ⟨S', er⟩ := hres
  have e0 : Env0 P w K mg base callerA [] s₁ H := ⟨rfl, hM, hbase, hsz, trivial, (fun b hb => nomatch hb), hok, .of_eq hg⟩
  have wd : Wd K mg [] H H [] := ⟨Le.refl _, .nil, (fun a z => nomatch z), rfl, fun n a c z => (by simp at z)⟩
  have rl : RepL K mg [] H [.scr (ns.map .int)] [.ref a] := .cons (by unfold Rep; exact ⟨a, _, rfl, hS, rep_ints ns⟩) .nil
  have post : Post K mg (Mon.pu m) (Rep K mg) [] H H [] (Mon.run (g [.scr (ns.map .int)]) []) (fun v _ => v = V.bl true) (fun _ _ _ => False) := by
    rw [er]
    exact fun κ' G' H' v _ r => rep_bl r
  refine codeAny_mono (F.run callerA [] s₁ H ⟨[.ref a], []⟩ [.ref a] [.ref a] _ (fun _ _ _ => False) [] H [] _ hr rfl e0 (hbind s₁ (.ref a)) (.cons rfl .nil) rfl wd rl post) fun r s' h => ?_
  cases r with
  | error e =>
    obtain ⟨_, _, _, _, _, _, _, _, _, _, _, _, z⟩ := h
    exact z.elim
  | ok fl =>
    cases fl with
    | next => exact h.elim
    | brk => exact h.elim
    | cont => exact h.elim
    | ret u =>
      obtain ⟨v, H', os, bare, un, hok', r', q⟩ := h
      have q : v = .bl true := q
      subst q
      obtain rfl : u = Value.bool true := r'
      refine ⟨rfl, .of_keep fun b o e => ?_, os, bare⟩
      cases q : H b with
      | none => exact un.keep b o e q (fun z => nomatch z) (by simp)
      | some z =>
        rcases hO b with y | ⟨ob, xs, y⟩
        · rw [q] at y; cases y
        · obtain ⟨e1, _⟩ := hok b _ y
          obtain ⟨e2, _⟩ := hok' b _ (un.frzs b ob _ y)
          rw [e] at e1
          cases e1
          exact e2
/-- the same, whether the script is the module's own object or not -/
theorem law_callG (KX : K.In s₁.heap) (hns : s₁.heap.Ns mainGlobals mg) (hb : s₁.heap.Ns builtinsNs mb) (hbb : ∀ x : Str, x ≠ "__name__" → mb x = bootBuiltins x) (hlim : s₁.heap.NoLimit) (hg : s₁.gens = #[])
    (ha : s₁.heap.get? a = some { cls := .type "list", data := .seq vs.toArray }) (hi : IntsAre vs ns) (hl : ns.length ≤ sizeLine) (hr : Room k callerA)
    (F : ∀ base : Heap, K.In base → base.Ns mainGlobals mg → FnG P w K mg base k fa fd [x] g) (hbind : ∀ (s : Shared) (u : Value), BindsTo s fd ⟨[u], []⟩ [(x, u)]) (hres : ∃ S', Mon.run (g [.scr (ns.map .int)]) [] = (.ok (.bl true), S')) :
    codeAny (model P w) callerA (.call (.ref fa) ⟨[.ref a], []⟩) (LawOk s₁) s₁ := by
  have rv := vals_ints hi
  have key : ∀ H : Hp, Only H → SqL K H a (ns.map V.int) → HOk P w H s₁.heap → (∀ b, H b ≠ none → b = a ∧ K.lookup a = none) → codeAny (model P w) callerA (.call (.ref fa) ⟨[.ref a], []⟩) (LawOk s₁) s₁ := fun H hO hS hok hA => by
    have free : ∀ {b : Addr}, (b ≠ a ∨ K.lookup a ≠ none) → H b = none := fun {b} h => by
      cases q : H b with
      | none => rfl
      | some u =>
        obtain ⟨e1, e2⟩ := hA b (by rw [q]; exact fun z => nomatch z)
        rcases h with h | h
        · exact absurd e1 h
        · exact absurd e2 h
    have notA : ∀ {b : Addr} {o : Obj}, s₁.heap.get? b = some o → (∀ xs n, o.data ≠ .seq xs n) → H b = none := fun {b o} e d => free (.inl fun z => by
      subst z
      rw [ha] at e
      cases e
      exact d _ _ rfl)
    have nsK : ∀ {b : Addr} {m : Str → Option Value}, s₁.heap.Ns b m → (hidT s₁.heap H).Ns b m := fun {b m} ⟨o, es, ep, e, d, r⟩ => ⟨o, es, ep, hidT_get e (notA e fun xs n z => by rw [d] at z; cases z), d, r⟩
    have hKb : K.In (hidT s₁.heap H) := fun b o e => hidT_get (KX b o e) (by
      by_cases hb : b = a
      · exact free (.inr fun z => by rw [hb, z] at e; cases e)
      · exact free (.inl hb))
    obtain ⟨mc, c1, c2⟩ := hlim
    exact law_at hr hg hO hS hok ⟨hKb, nsK hns, ⟨mb, nsK hb, hbb⟩, ⟨mc, nsK c1, c2⟩⟩ (fun b o e => of_hidT e) (Nat.le_of_eq (hidT_size _ _)) (F _ hKb (nsK hns)) hbind hres
  cases hk : K.lookup a with
  | some o =>
    have e := KX a o hk
    rw [ha] at e
    cases e
    exact key (fun _ => none) (fun _ => .inl rfl) (.inr ⟨_, vs.toArray, _, hk, rfl, rfl, rfl, by rw [List.size_toArray, hi.length]; exact hl, by simpa using rv⟩) (fun b u z => nomatch z) fun b z => absurd rfl z
  | none =>
    obtain ⟨o, eo⟩ : ∃ o : HO, o = .frz { cls := .type "list", data := .seq vs.toArray } (.lst (ns.map V.int)) := ⟨_, rfl⟩
    have one : ∀ {b : Addr} {u : HO}, L2.upd (fun _ => none) a o b = some u → b = a ∧ u = o := fun {b u} z => by
      by_cases hb : b = a
      · subst hb; rw [upd_same] at z; cases z; exact ⟨rfl, rfl⟩
      · rw [upd_ne hb] at z; cases z
    refine key (L2.upd (fun _ => none) a o) (fun b => ?_) (.inl (.inr ⟨_, by rw [upd_same, eo]⟩)) (fun b u z => ?_) fun b z => ?_
    · cases q : L2.upd (fun _ => none) a o b with
      | none => exact .inl rfl
      | some u =>
        obtain ⟨_, e⟩ := one q
        exact .inr ⟨_, _, by rw [e, eo]⟩
    · obtain ⟨e1, e2⟩ := one z
      subst e1 e2 eo
      exact ⟨ha, by rw [List.length_map]; exact hl, vs, _, rv, ha⟩
    · cases q : L2.upd (fun _ => none) a o b with
      | none => exact absurd q z
      | some u => exact ⟨(one q).1, hk⟩
end
/-- A LAW'S END over a head by facts -/
theorem walk_ofG {l : PySem.W.OpenLaw} {n k : Nat} {q : Program} {loose : List Str} {XP : (Str → Option Value) → Heap → Prop} {YP : World → Heap → Prop} {d : DefRec} {x : Str} {m : Type → Type} [Mon m]
    (hn : l.most = some n) (hn2 : n ≤ sizeLine) (hdf : d.params.defaults = []) (hr : Room k callerA)
    (F : ∀ (w : World) (mg : Str → Option Value) (fa : Addr) (h : Heap), YP w h → h.Ns mainGlobals mg → mg d.name = some (.ref fa) →
      ∃ (K : PySem.W.Frag) (fd : FuncData) (g : List Val → m Val), K.In h ∧ (∀ (s : Shared) (u : Value), BindsTo s fd ⟨[u], []⟩ [(x, u)]) ∧
        (∀ ns : List Int, ns.length ≤ n → ∃ S', Mon.run (g [.scr (ns.map .int)]) [] = (.ok (.bl true), S')) ∧
        ∀ base : Heap, K.In base → base.Ns mainGlobals mg → FnG l.prog w K mg base k fa fd [x] g) :
    PySem.W.WalkO q loose XP YP l.row.toRowW d [] (fun f vs => PySem.call f vs) := by
  refine Att.attach_call hn hdf fun w s₀ s₁ mg mb fa o pm cd doc a vs ns G Y ho hd hcd hmg hobj hints hlen hg => ?_
  obtain ⟨K, fd, g, KX, hb, hres, hF⟩ := F w mg fa _ Y G.T.g hmg
  exact law_callG KX G.T.g G.T.b G.T.builtins G.T.nolimit hg hobj hints (Nat.le_trans hlen hn2) hr hF hb (hres ns hlen)
end Tv

end
/-! what the printed derivations use -/
namespace Tv
open PySem PySem.Spec PyProof.Rows L2

section
variable {X : Cx} {N : List Str} {sc : Scope} {k : Nat} {E : Env} {m : Type → Type} [Mon m] {ρ : Type} {enc : ρ → Out} {rest : List Stmt} {Ks : List (List Stmt)}
/-- the outcome told anew -/
theorem st_map {ρ1 : Type} {s : Stmt} {r : m ρ1} {enc1 : ρ1 → Out} {f : ρ1 → m ρ} (h : St1 X E s r enc1) (hf : ∀ a, (∃ y, f a = Pure.pure y ∧ enc y = enc1 a) ∨ f a = Mon.of .stuck) : St1 X E s (r >>= f) enc := by
  intro B0 S κ G σ H sat W tk D q
  refine h B0 S κ G σ H sat W tk D ?_
  rw [Mon.run_bind] at q
  have q : PostS X.K X.mg (Mon.pu m) B0 (M.bind (Mon.run r) (fun a => Mon.run (f a)) S) enc D W := q
  unfold M.bind at q
  cases e : Mon.run r S with
  | mk r S' =>
    rw [e] at q
    cases r with
    | ok a =>
      have q : PostS X.K X.mg (Mon.pu m) B0 (Mon.run (f a) S') enc D W := q
      rcases hf a with ⟨y, e1, e2⟩ | e1
      · rw [e1] at q
        have q2 := postPure q
        show PostO X.K X.mg (Mon.pu m) B0 S' D (enc1 a)
        rw [← e2]
        exact q2
      · rw [e1, Mon.run_of] at q
        exact q.elim
    | exn c fs => exact q
    | stuck => exact q
/-- a loop that only goes on -/
def onlyNx {ρ τ : Type} : Fl ρ τ → m ρ
  | .nx st => Pure.pure st
  | _ => Mon.of .stuck
/-- a loop that goes on or hands back -/
def nxRt {ρ τ : Type} : Fl ρ τ → m (ρ ⊕ τ)
  | .nx st => Pure.pure (.inl st)
  | .rt t => Pure.pure (.inr t)
  | _ => Mon.of .stuck
def encSt (enc0 : ρ → Env) : ρ → Out := fun st => .nx (enc0 st)
def encSum {τ : Type} (enc0 : ρ → Env) (tv : τ → Val) : ρ ⊕ τ → Out
  | .inl st => .nx (enc0 st)
  | .inr t => .rt (tv t)
theorem st_only {τ : Type} {s : Stmt} {r : m (Fl ρ τ)} {enc0 : ρ → Env} {tv : τ → Val} (h : St1 X E s r (encL enc0 tv)) : St1 X E s (r >>= onlyNx) (encSt enc0) :=
  st_map h fun a => match a with
    | .nx st => .inl ⟨st, rfl, rfl⟩
    | .ct _ => .inr rfl
    | .bk _ => .inr rfl
    | .rt _ => .inr rfl
theorem st_nxRt {τ : Type} {s : Stmt} {r : m (Fl ρ τ)} {enc0 : ρ → Env} {tv : τ → Val} (h : St1 X E s r (encL enc0 tv)) : St1 X E s (r >>= nxRt) (encSum enc0 tv) :=
  st_map h fun a => match a with
    | .nx st => .inl ⟨_, rfl, rfl⟩
    | .rt t => .inl ⟨_, rfl, rfl⟩
    | .ct _ => .inr rfl
    | .bk _ => .inr rfl
/-- a statement that goes on, then the rest -/
theorem sx_then {ρ1 : Type} {s : Stmt} {r1 : m ρ1} {enc0 : ρ1 → Env} {f : ρ1 → m ρ} (h : St1 X E s r1 (encSt enc0)) (hr : ∀ st, Sx X (enc0 st) rest Ks (f st) enc) : Sx X E (s :: rest) Ks (r1 >>= f) enc := sx_seq h hr
/-- one that goes on or hands back -/
def orRt {ρ1 τ : Type} (f : ρ1 → m ρ) (g : τ → ρ) : ρ1 ⊕ τ → m ρ
  | .inl st => f st
  | .inr t => Pure.pure (g t)
theorem sx_thenR {ρ1 τ : Type} {s : Stmt} {r1 : m (ρ1 ⊕ τ)} {enc0 : ρ1 → Env} {tv : τ → Val} {f : ρ1 → m ρ} {g : τ → ρ} (h : St1 X E s r1 (encSum enc0 tv)) (hr : ∀ st, Sx X (enc0 st) rest Ks (f st) enc) (hg : ∀ t, IsRt (enc (g t)) (tv t)) : Sx X E (s :: rest) Ks (r1 >>= orRt f g) enc :=
  sx_seq h fun a => match a with
    | .inl st => hr st
    | .inr t => ⟨_, rfl, hg t⟩
/-- the end of a block, some slots forgotten -/
theorem sx_endF (is : List Nat) {x : ρ} {E' : Env} (h : enc x = .nx E') (he : unset E is = E') : Sx X E [] [] (Pure.pure x : m ρ) enc := by
  intro B0 S κ G σ H sat W tk D q
  have q2 : PostO X.K X.mg (Mon.pu m) B0 S D (enc x) := postPure q
  rw [h] at q2
  exact wss_of pss_nil (q2 κ G σ H (he ▸ sat.unset is))
theorem sx_contF (is : List Nat) {pos : Pos} {x : ρ} {E' : Env} (h : enc x = .ct E') (he : unset E is = E') : Sx X E (.Continue pos :: rest) Ks (Pure.pure x : m ρ) enc := by
  intro B0 S κ G σ H sat W tk D q
  refine wss_of (pss_cons ps_continue (pss_self (e := rest))) ?_
  show (DK X Ks D).ct σ H
  rw [DK_ct]
  have q2 : PostO X.K X.mg (Mon.pu m) B0 S D (enc x) := postPure q
  rw [h] at q2
  exact q2 κ G σ H (he ▸ sat.unset is)
theorem sx_brkF (is : List Nat) {pos : Pos} {x : ρ} {E' : Env} (h : enc x = .bk E') (he : unset E is = E') : Sx X E (.Break pos :: rest) Ks (Pure.pure x : m ρ) enc := by
  intro B0 S κ G σ H sat W tk D q
  refine wss_of (pss_cons ps_break (pss_self (e := rest))) ?_
  show (DK X Ks D).bk σ H
  rw [DK_bk]
  have q2 : PostO X.K X.mg (Mon.pu m) B0 S D (enc x) := postPure q
  rw [h] at q2
  exact q2 κ G σ H (he ▸ sat.unset is)
/-- slots forgotten ahead of a block -/
theorem sx_forget (is : List Nat) {ss : List Stmt} {r : m ρ} {E' : Env} (he : unset E is = E') (h : Sx X E' ss Ks r enc) : Sx X E ss Ks r enc := by
  intro B0 S κ G σ H sat W tk D q
  exact h B0 S κ G σ H (he ▸ sat.unset is) W tk D q
/-- x = [..], x a plain local: stored at the comprehension's own end -/
theorem sx_asgLc (c : CtxF X N sc k) (i : Nat) {x : Str} {elt : Expr} {gs : List Comprehension} {scope : Scope} {epos p pos : Pos} {r : m Val} {f : Val → m ρ} (hl : Lc N sc i x) (hi : i < E.length) (h : EvLc X E (.ListComp elt gs scope epos) r) (hr : ∀ v, Sx X (E.set i (.fz v)) rest Ks (f v) enc)
    (hk : sc.kind = .function) (hp : (p.line == epos.line) = true) (ha : (scope.names.any fun (n, k) => n == x && (k == .local || k == .cell)) = false) : Sx X E (.Assign [.Name x p] (.ListComp elt gs scope epos) pos :: rest) Ks (r >>= f) enc := by
  intro B0 S κ G σ H sat W tk D q
  obtain ⟨h1, h2⟩ := hl.n
  refine wss_of (pss_cons (ps_self (e := .Assign [.Name x p] (.ListComp elt gs scope epos) pos)) (pss_self (e := rest))) ?_
  refine h.2 i x p pos (by rw [c.n]; exact h1) (by rw [c.sc]; exact h2) (sw_true (by rw [c.sc]; exact hk) (by rw [c.sc]; exact h2) hp ha) B0 S κ G σ H sat.weak W tk _ (bindS sat q fun v vv κ1 G1 H1 S1 sat1 r1 hq ex => ?_)
  exact hr v B0 S1 κ1 G1 _ H1 (sat1.setFz hi r1) W tk D hq
/-- .. x a cell, or on another line -/
theorem sx_asgLcC (c : CtxF X N sc k) (i : Nat) {x : Str} {elt : Expr} {gs : List Comprehension} {scope : Scope} {epos p pos : Pos} {r : m Val} {f : Val → m ρ} (hl : Lk N sc i x) (hi : i < E.length) (h : EvLc X E (.ListComp elt gs scope epos) r) (hr : ∀ v, Sx X (E.set i (.fz v)) rest Ks (f v) enc)
    (ha : (decide (sc.names.lookup x = some .local) && (p.line == epos.line) && !(scope.names.any fun (n, k) => n == x && (k == .local || k == .cell))) = false) : Sx X E (.Assign [.Name x p] (.ListComp elt gs scope epos) pos :: rest) Ks (r >>= f) enc := by
  intro B0 S κ G σ H sat W tk D q
  obtain ⟨h1, h2⟩ := hl.n
  have hs : swapsWith (.ListComp elt gs scope epos) (some (.Name x p)) pos.line X.env = pure false := by
    unfold swapsWith
    have e : (X.env.kindOf x == some .local) = decide (sc.names.lookup x = some .local) := by
      show (X.env.scope.names.lookup x == some .local) = _
      rw [c.sc]
      rw [Bool.eq_iff_iff, decide_eq_true_iff, beq_iff_eq]
    show (pure (X.env.blockKind == .function && X.env.kindOf x == some .local && p.line == epos.line && !(scope.names.any fun (n, k) => n == x && (k == .local || k == .cell))) : Sem Bool) = pure false
    rw [e]
    cases X.env.blockKind == .function
    · rfl
    · rw [Bool.true_and, ha]
  refine wss_of (pss_cons (ps_set (i := i) (by rw [c.n]; exact c.nd) (by rw [c.n]; exact h1) (by rw [c.sc]; exact h2) pe_self hs (.inl (c.fn _))) (pss_self (e := rest))) ?_
  refine h.1 B0 S κ G σ H sat.weak W tk _ (bindS sat q fun v vv κ1 G1 H1 S1 sat1 r1 hq ex => ?_)
  exact hr v B0 S1 κ1 G1 _ H1 (sat1.setFz hi r1) W tk D hq
theorem kwB_of {K : PySem.W.Frag} {x qual : Str} {params : Arguments} {body : List Stmt} {scope : Scope} {kws : List (Str × V)} {f : Addr} {fd : FuncData} {ps ks : List Str} {p : Nat} {is : List Nat} (F : FunD K x qual params body scope [] kws f fd)
    (h : ∀ (kV doc pm : Value) (an : Option Addr) (cdv ct : Value) (us ws : List Value), us.length = p → ws.length = ks.length → bindArgs (PySem.W.fnOf x qual params body scope .none kV doc pm an cdv ct) ⟨us, ks.zip ws⟩ = pure (ps.zip (pickL .none is (us ++ ws)))) : KwB K fd ps ks p is := by
  obtain ⟨oc, od, dV, kV, doc, pm, an, cdv, ct, osl, rfl, lk, hcd, hD, hK⟩ := F.ex
  rcases hD with ⟨_, rfl⟩ | ⟨e, _⟩
  · exact fun s us ws _ h1 h2 => BindsTo.of_eq (h kV doc pm an cdv ct us ws h1 h2)
  · exact absurd rfl e
/-- x = y, y a frozen value -/
theorem sx_copy (c : CtxF X N sc k) (i j : Nat) {x y : Str} {p p2 pos : Pos} {v : Val} {r : m ρ} (hl : Lk N sc i x) (hn : Nm N sc j y) (he : E[j]? = some (.fz v)) (hi : i < E.length) (hr : Sx X (E.set i (.fz v)) rest Ks r enc) : Sx X E (.Assign [.Name x p] (.Name y p2) pos :: rest) Ks r enc := by
  intro B0 S κ G σ H sat W tk D q
  obtain ⟨h1, h2⟩ := hl.n
  refine wss_of (pss_cons (ps_set (i := i) (by rw [c.n]; exact c.nd) (by rw [c.n]; exact h1) (by rw [c.sc]; exact h2) (c.pv hn) (swaps_of rfl _ _ _) (.inl (c.fn _))) (pss_self (e := rest))) ?_
  obtain ⟨_, L, so, _, _⟩ := id sat
  obtain ⟨ov, L1, hσ, ⟨_, u, hu, ru⟩, _⟩ := so.get he
  subst hu
  exact ⟨u, hσ, hr B0 S κ G _ H (sat.setFz hi ru) W tk D q⟩
end
end Tv

/-! the head's facts: defs, names, tables of ints -/
namespace Tv
open PySem PySem.Spec PyProof.Rows L2

/-- a module's tuple of ints -/
abbrev TabI : Type := Str × List Int
def tabOk (K : PySem.W.Frag) (t : TabI) : Bool := He.tupB K t.1 (t.2.map He.Dv.int)
theorem tab_sq {K : PySem.W.Frag} {t : TabI} (h : tabOk K t = true) (H : Hp) : SqT K H (He.ga K t.1) (t.2.map V.int) := by
  have q := He.tupB_ok (K := K) (x := t.1) h H
  rwa [List.map_map] at q
abbrev AlX : Type := Bool × He.AlD
def obsX (fa : List He.Fa) (fn : List He.DefD) (ts : List TabI) (K : PySem.W.Frag) : AlX := (ts.all (tabOk K), He.obsD fa fn K)
def obsXG (n : Nat) (fa : List He.Fa) (fn : List He.DefD) (ts : List TabI) (g : Addr → Option Obj) : AlX := obsX fa fn ts (He.frG g (He.asD g n))
def SaysX (fa : List He.Fa) (fn : List He.DefD) (ts : List TabI) (K : PySem.W.Frag) : Prop := obsX fa fn ts K = (true, He.valD fn)
def hookX (n : Nat) (fa : List He.Fa) (fn : List He.DefD) (ts : List TabI) : PySem.W.Hook where
  α := AlX
  obs := fun s => obsXG n fa fn ts s.heap.get?
  val := fun _ => (true, He.valD fn)
  says := fun _ h => ∃ K : PySem.W.Frag, K.In h ∧ SaysX fa fn ts K
  of := fun _ _ e => ⟨_, He.frG_in, e⟩
  keeps := fun _ _ _ ⟨K, hK, c⟩ k => ⟨K, PySem.W.Frag.In.keeps hK k, c⟩
theorem obsXG_eq {n : Nat} {fa : List He.Fa} {fn : List He.DefD} {ts : List TabI} {g : Addr → Option Obj} {s : Shared} (h : ∀ a, g a = s.heap.get? a) : obsXG n fa fn ts g = (hookX n fa fn ts).obs s := by
  have e : g = s.heap.get? := funext h
  rw [e]; rfl
section
variable {fa : List He.Fa} {fn : List He.DefD} {ts : List TabI} {K : PySem.W.Frag}
theorem SaysX.d (c : SaysX fa fn ts K) : He.SaysD fa fn K := congrArg (fun z : AlX => z.2) c
theorem SaysX.tab (c : SaysX fa fn ts K) (i : Nat) {t : TabI} (h : ts[i]? = some t := by rfl) : tabOk K t = true :=
  List.all_eq_true.mp (congrArg (fun z : AlX => z.1) c) t (List.mem_of_getElem? h)
end
end Tv

/-! plain evaluation of mirrors: lemmas to rewrite with, and a small logic for runs that go well -/
namespace Tv
open PySem PySem.Spec PyProof.Rows L2

/-! ### Res -/
theorem qPure {α β : Type} (a : α) (f : α → Res β) : ((Pure.pure a : Res α) >>= f) = f a := (rfl)
theorem qOk {α β : Type} (a : α) (f : α → Res β) : ((Res.ok a : Res α) >>= f) = f a := (rfl)
theorem qExn {α β : Type} (c : Str) (fs : List (Str × Val)) (f : α → Res β) : ((Res.exn c fs : Res α) >>= f) = .exn c fs := (rfl)
theorem qOf {α : Type} (r : Res α) : (Mon.of r : Res α) = r := (rfl)
theorem qP {α : Type} (a : α) : (Pure.pure a : Res α) = .ok a := (rfl)
theorem qAdd (i j : Int) : oAdd (.int i) (.int j) = .ok (.int (i + j)) := (rfl)
theorem qSub (i j : Int) : oSub (.int i) (.int j) = .ok (.int (i - j)) := (rfl)
theorem qNeg (i : Int) : oNeg (.int i) = .ok (.int (-i)) := (rfl)
theorem qLe (i j : Int) : oLe (.int i) (.int j) = .ok (.bl (decide (i ≤ j))) := (rfl)
theorem qLt (i j : Int) : oLt (.int i) (.int j) = .ok (.bl (decide (i < j))) := (rfl)
theorem qGt (i j : Int) : oGt (.int i) (.int j) = .ok (.bl (decide (j < i))) := (rfl)
theorem qGe (i j : Int) : oGe (.int i) (.int j) = .ok (.bl (decide (j ≤ i))) := (rfl)
theorem qEqI (i j : Int) : oEq (.int i) (.int j) = .ok (.bl (i == j)) := (rfl)
theorem qNeI (i j : Int) : oNe (.int i) (.int j) = .ok (.bl (!(i == j))) := (rfl)
theorem qEqT {i j : Int} (h : i = j) : oEq (.int i) (.int j) = .ok (.bl true) := by rw [qEqI, h, beq_self_eq_true]
theorem qEqF {i j : Int} (h : i ≠ j) : oEq (.int i) (.int j) = .ok (.bl false) := by rw [qEqI, beq_eq_false_iff_ne.mpr h]
theorem qBl (b : Bool) : vBl (.bl b) = .ok b := (rfl)
theorem qTruV (b : Bool) : vTruV (.bl b) = .ok b := (rfl)
theorem qTru (b : Bool) : vTru (.bl b) = .ok b := (rfl)
theorem qIp (f : Int → Int → Int) (i j : Int) : ipOf f (.int i) (.int j) = .ok (.int (f i j)) := (rfl)
theorem q2 {m : Type → Type} [Mon m] {α : Type} (a b : Val) (f : Val → Val → m α) : on2 (.tup [a, b]) f = f a b := (rfl)
theorem qItL (xs : List Val) : vIter (.lst xs) = .ok xs := (rfl)
theorem qItT (xs : List Val) : vIter (.tup xs) = .ok xs := (rfl)
theorem qSqL (xs : List Val) : vSeq (.lst xs) = .ok xs := (rfl)
theorem qSqT (xs : List Val) : vSeq (.tup xs) = .ok xs := (rfl)
theorem qLenL (xs : List Val) : fLen [.lst xs] = .ok (.int xs.length) := (rfl)
theorem qLenT (xs : List Val) : fLen [.tup xs] = .ok (.int xs.length) := (rfl)
theorem qLenS (xs : List Val) : fLen [.scr xs] = .ok (.int xs.length) := (rfl)
theorem qLenD (xs : List (Key × Val)) : fLen [.dic xs] = .ok (.int xs.length) := (rfl)
theorem qIntI (i : Int) : fInt [.int i] = .ok (.int i) := (rfl)
theorem qIxT (xs : List Val) (i : Int) : oIx (.tup xs) (.int i) = ixV xs i := (rfl)
theorem qIxL (xs : List Val) (i : Int) : oIx (.lst xs) (.int i) = ixV xs i := (rfl)
theorem qTupL (xs : List Val) : fTuple [.lst xs] = .ok (.tup xs) := (rfl)
theorem qOnly {ρ τ : Type} (st : ρ) : (onlyNx (.nx st : Fl ρ τ) : Res ρ) = .ok st := (rfl)
theorem qNxL {ρ τ : Type} (st : ρ) : (nxRt (.nx st : Fl ρ τ) : Res (ρ ⊕ τ)) = .ok (.inl st) := (rfl)
theorem qNxR {ρ τ : Type} (t : τ) : (nxRt (.rt t : Fl ρ τ) : Res (ρ ⊕ τ)) = .ok (.inr t) := (rfl)
theorem qOrL {ρ ρ1 τ : Type} (f : ρ1 → Res ρ) (g : τ → ρ) (x : ρ1) : orRt f g (.inl x) = f x := (rfl)
theorem qOrR {ρ ρ1 τ : Type} (f : ρ1 → Res ρ) (g : τ → ρ) (x : τ) : orRt f g (.inr x : ρ1 ⊕ τ) = .ok (g x) := (rfl)
theorem qNxOk {α : Type} (x : α) : (Mon.nx (Res.ok x) : Res α) = .ok x := (rfl)
theorem smallNat {k : Nat} (h : k < 18446744073709551616) : smallB (k : Int) = true := by
  unfold smallB
  rw [Bool.and_eq_true_iff]
  exact ⟨decide_eq_true (by omega), decide_eq_true (by omega)⟩
theorem smallI {k : Int} (h1 : -18446744073709551616 < k) (h2 : k < 18446744073709551616) : smallB k = true := by
  unfold smallB
  rw [Bool.and_eq_true_iff]
  exact ⟨decide_eq_true h1, decide_eq_true h2⟩
theorem qMulL {i : Int} (j : Int) (h : smallB i = true) : oMul (.int i) (.int j) = .ok (.int (i * j)) := by
  show (if (smallB i || smallB j) = true then _ else _) = _
  rw [h]; rfl
theorem qMulR (i : Int) {j : Int} (h : smallB j = true) : oMul (.int i) (.int j) = .ok (.int (i * j)) := by
  show (if (smallB i || smallB j) = true then _ else _) = _
  rw [h, Bool.or_true]; rfl
theorem qFdiv (i : Int) {j : Int} (h1 : 0 < j) (h2 : j < 1073741824) : oFdiv (.int i) (.int j) = .ok (.int (i.fdiv j)) := by
  show (if _ then _ else _) = _
  rw [if_pos ⟨by omega, by omega⟩]
theorem qMod (i : Int) {j : Int} (h1 : 0 < j) : oMod (.int i) (.int j) = .ok (.int (i % j)) := by
  show (if _ then _ else _) = _
  rw [if_pos (by omega), Int.fmod_eq_emod_of_nonneg _ (by omega)]
theorem qDivmod (i : Int) {j : Int} (h1 : 0 < j) (h2 : j < 1073741824) : fDivmod [.int i, .int j] = .ok (.tup [.int (i / j), .int (i % j)]) := by
  show (if _ then _ else _) = _
  rw [if_pos ⟨h1, h2⟩]
theorem sizeBig : 10000 ≤ sizeLine := by decide
theorem qTup {xs : List Val} (h : xs.length ≤ 10000) : vTup xs = .ok (.tup xs) := by
  unfold vTup
  rw [if_pos (Nat.le_trans h sizeBig)]
theorem qLst {xs : List Val} (h : xs.length ≤ 10000) : vLst xs = .ok (.lst xs) := by
  unfold vLst
  rw [if_pos (Nat.le_trans h sizeBig)]
theorem qRoom {xs : List Val} (h : xs.length < 10000) : roomL xs = .ok () := by
  unfold roomL
  rw [if_pos (Nat.lt_of_lt_of_le h sizeBig)]
theorem qCatL {xs ys : List Val} (h : xs.length + ys.length ≤ 10000) : oAdd (.lst xs) (.lst ys) = .ok (.lst (xs ++ ys)) := by
  show (if _ then _ else _) = _
  rw [if_pos (Nat.le_trans h sizeBig)]
theorem qCatT {xs ys : List Val} (h : xs.length + ys.length ≤ 10000) : oAdd (.tup xs) (.tup ys) = .ok (.tup (xs ++ ys)) := by
  show (if _ then _ else _) = _
  rw [if_pos (Nat.le_trans h sizeBig)]
theorem atI_nat' {α : Type} {xs : List α} {i : Nat} {x : α} (h : xs[i]? = some x) : L2.atI xs (i : Int) = some x := by
  have hl := (List.getElem?_eq_some_iff.mp h).1
  exact L2.atI_nat h
theorem qIx {xs : List Val} {i : Nat} {x : Val} (h : xs[i]? = some x) : ixV xs (i : Int) = .ok x := by
  unfold ixV
  rw [L2.atI_nat h]
theorem qRangeI {j : Int} (h1 : -(2 ^ 62) ≤ j) (h2 : j < 2 ^ 62) : vRange1 [.int j] = .ok (rangeV 0 1 j.toNat) := by
  unfold vRange1
  split
  · rename_i hh
    cases hh
    rw [if_pos ⟨h1, h2⟩]
  · rename_i hh
    exact absurd rfl (hh j)
theorem qRangeJ {i j : Int} (h1 : -(2 ^ 62) ≤ i) (h2 : i < 2 ^ 62) (h3 : -(2 ^ 62) ≤ j) (h4 : j < 2 ^ 62) : vRange2 [.int i, .int j] = .ok (rangeV i 1 (j - i).toNat) := by
  unfold vRange2
  split
  · rename_i hh
    cases hh
    rw [if_pos ⟨h1, h2, h3, h4⟩]
  · rename_i hh
    exact absurd rfl (hh i j)
theorem lim62 {n : Nat} (h : n < 1000000) : -(2 ^ 62) ≤ (n : Int) ∧ (n : Int) < 2 ^ 62 := by
  refine ⟨?_, ?_⟩
  · exact Int.le_trans (by decide) (Int.natCast_nonneg n)
  · exact Int.lt_of_lt_of_le (Int.ofNat_lt.mpr h) (by decide)
/-- the items of a range from 0 -/
def upto (n : Nat) : List Val := (List.range n).map fun i : Nat => Val.int (i : Int)
theorem rangeV_upto (n : Nat) : rangeV 0 1 n = upto n := by
  unfold rangeV upto
  refine List.map_congr_left fun i _ => ?_
  rw [Int.zero_add, Int.mul_one]
theorem qRange1 {n : Nat} (h : n < 1000000) : vRange1 [.int n] = .ok (upto n) := by
  rw [qRangeI (lim62 h).1 (lim62 h).2, Int.toNat_natCast, rangeV_upto]
theorem qRange2 {a b : Nat} (ha : a < 1000000) (hb : b < 1000000) : vRange2 [.int a, .int b] = .ok ((List.range (b - a)).map fun i : Nat => Val.int ((a + i : Nat) : Int)) := by
  rw [qRangeJ (lim62 ha).1 (lim62 ha).2 (lim62 hb).1 (lim62 hb).2, show ((b : Int) - (a : Int)).toNat = b - a from by omega]
  unfold rangeV
  congr 1
  refine List.map_congr_left fun i _ => ?_
  rw [Int.mul_one, Int.natCast_add]

/-! ### loops -/
theorem forCons {ρ τ : Type} {step : ρ → Val → Res (Fl ρ τ)} {x : Val} {xs : List Val} {st st1 : ρ} (h : step st x = .ok (.nx st1)) : forM' step (x :: xs) st = forM' step xs st1 := by
  show (step st x >>= _) = _
  rw [h]
  rfl
theorem forRt {ρ τ : Type} {step : ρ → Val → Res (Fl ρ τ)} {x : Val} {xs : List Val} {st : ρ} {t : τ} (h : step st x = .ok (.rt t)) : forM' step (x :: xs) st = .ok (.rt t) := by
  show (step st x >>= _) = _
  rw [h]
  rfl
theorem forExn {ρ τ : Type} {step : ρ → Val → Res (Fl ρ τ)} {x : Val} {xs : List Val} {st : ρ} {c : Str} {fs : List (Str × Val)} (h : step st x = .exn c fs) : forM' step (x :: xs) st = .exn c fs := by
  show (step st x >>= _) = _
  rw [h]
  rfl
theorem mapCons {f : Val → Res Val} {x y : Val} {xs ys : List Val} (h : f x = .ok y) (h2 : mapM' f xs = .ok ys) : mapM' f (x :: xs) = .ok (y :: ys) := by
  show (f x >>= _) = _
  rw [h, qOk, h2]
  rfl
theorem mapAll {f : Val → Res Val} {g : Val → Val} : ∀ {xs : List Val}, (∀ x ∈ xs, f x = .ok (g x)) → mapM' f xs = .ok (xs.map g)
  | [], _ => rfl
  | x :: xs, h => mapCons (h x List.mem_cons_self) (mapAll fun y m => h y (List.mem_cons_of_mem _ m))
theorem mapOf {α : Type} {f : Val → Res Val} {i : α → Val} {g : α → Val} : ∀ {xs : List α}, (∀ x ∈ xs, f (i x) = .ok (g x)) → mapM' f (xs.map i) = .ok (xs.map g)
  | [], _ => rfl
  | x :: xs, h => mapCons (h x List.mem_cons_self) (mapOf fun y m => h y (List.mem_cons_of_mem _ m))
theorem lcSome {f : Val → Res (Option Val)} {x y : Val} {xs ys : List Val} (h : f x = .ok (some y)) (h2 : lcM f xs = .ok ys) : lcM f (x :: xs) = .ok (y :: ys) := by
  show (f x >>= _) = _
  rw [h, qOk]
  show (lcM f xs >>= _) = _
  rw [h2]
  rfl
theorem lcNone {f : Val → Res (Option Val)} {x : Val} {xs ys : List Val} (h : f x = .ok none) (h2 : lcM f xs = .ok ys) : lcM f (x :: xs) = .ok ys := by
  show (f x >>= _) = _
  rw [h, qOk]
  show (lcM f xs >>= _) = _
  rw [h2]
  rfl
theorem lcOf {α : Type} {f : Val → Res (Option Val)} {i : α → Val} {p : α → Bool} {g : α → Val} : ∀ {xs : List α}, (∀ x ∈ xs, f (i x) = .ok (if p x = true then some (g x) else none)) → lcM f (xs.map i) = .ok ((xs.filter p).map g)
  | [], _ => rfl
  | x :: xs, h => by
    have h1 := h x List.mem_cons_self
    have h2 := lcOf (xs := xs) fun y m => h y (List.mem_cons_of_mem _ m)
    rw [List.map_cons]
    by_cases c : p x = true
    · rw [if_pos c] at h1
      rw [List.filter_cons_of_pos c, List.map_cons]
      exact lcSome h1 h2
    · rw [if_neg c] at h1
      rw [List.filter_cons_of_neg c]
      exact lcNone h1 h2
/-- a loop that goes on, with what holds after each turn -/
theorem forOk {ρ τ : Type} {step : ρ → Val → Res (Fl ρ τ)} (P : List Val → ρ → Prop) : ∀ (items done : List Val) (st : ρ),
    (∀ d x r st, done ++ items = d ++ x :: r → P d st → ∃ st', step st x = .ok (.nx st') ∧ P (d ++ [x]) st') → P done st →
    ∃ st', forM' step items st = .ok (.nx st') ∧ P (done ++ items) st'
  | [], done, st, _, p => ⟨st, rfl, by rw [List.append_nil]; exact p⟩
  | x :: xs, done, st, h, p => by
    obtain ⟨st1, e1, p1⟩ := h done x xs st rfl p
    obtain ⟨st2, e2, p2⟩ := forOk P xs (done ++ [x]) st1 (fun d y r st e q => h d y r st (by rw [← e, List.append_assoc]; rfl) q) p1
    refine ⟨st2, ?_, by rw [List.append_assoc] at p2; exact p2⟩
    rw [forCons e1]
    exact e2

/-! ### M: a run that goes well -/
def Go {α : Type} (m : M α) (S : Cells) (Q : α → Cells → Prop) : Prop := ∃ a S', m S = (.ok a, S') ∧ Q a S'
section
variable {α β : Type} {m : M α} {S : Cells} {Q : α → Cells → Prop}
theorem Go.pure {a : α} (h : Q a S) : Go (Pure.pure a : M α) S Q := ⟨a, S, rfl, h⟩
theorem Go.bind {f : α → M β} {Q : β → Cells → Prop} (h : Go m S fun a S1 => Go (f a) S1 Q) : Go (m >>= f) S Q := by
  obtain ⟨a, S1, e, b, S2, e2, q⟩ := h
  refine ⟨b, S2, ?_, q⟩
  show M.bind m f S = _
  unfold M.bind
  rw [e]
  exact e2
theorem Go.of {r : Res α} {a : α} (e : r = .ok a) (h : Q a S) : Go (Mon.of r : M α) S Q := ⟨a, S, by subst e; rfl, h⟩
theorem Go.ofB {r : Res α} {a : α} {f : α → M β} {Q : β → Cells → Prop} (e : r = .ok a) (h : Go (f a) S Q) : Go ((Mon.of r : M α) >>= f) S Q := Go.bind (Go.of e h)
theorem Go.mono {Q' : α → Cells → Prop} (h : Go m S Q) (hq : ∀ a S', Q a S' → Q' a S') : Go m S Q' := by
  obtain ⟨a, S', e, q⟩ := h
  exact ⟨a, S', e, hq a S' q⟩
theorem Go.nx (h : Go m S Q) : Go (Mon.nx m : M α) S Q := by
  obtain ⟨a, S', e, q⟩ := h
  refine ⟨a, S', ?_, q⟩
  show noExn m S = _
  unfold noExn
  rw [e]
theorem Go.cast {m' : M α} (e : m = m') (h : Go m' S Q) : Go m S Q := e ▸ h
theorem Go.ite {c : Bool} {m1 m2 : M α} (h1 : c = true → Go m1 S Q) (h2 : c = false → Go m2 S Q) : Go (if c = true then m1 else m2) S Q := by
  cases c with
  | true => exact h1 rfl
  | false => exact h2 rfl
theorem Go.run {m : M Val} {S : Cells} {Q : Val → Cells → Prop} {v : Val} (h : Go m S Q) (hq : ∀ a S', Q a S' → a = v) : ∃ S', Mon.run m S = (.ok v, S') := by
  obtain ⟨a, S', e, q⟩ := h
  have := hq a S' q
  subst this
  exact ⟨S', e⟩
/-- a loop that goes on to its end -/
theorem Go.forOn {ρ τ : Type} {step : ρ → Val → M (Fl ρ τ)} (P : List Val → ρ → Cells → Prop) : ∀ (items done : List Val) (st : ρ) (S : Cells),
    (∀ d x r st S, done ++ items = d ++ x :: r → P d st S → Go (step st x) S fun fl S' => ∃ st', fl = .nx st' ∧ P (d ++ [x]) st' S') → P done st S →
    Go (forM' step items st) S fun fl S' => ∃ st', fl = .nx st' ∧ P (done ++ items) st' S'
  | [], done, st, S, _, p => ⟨_, S, rfl, st, rfl, by rw [List.append_nil]; exact p⟩
  | x :: xs, done, st, S, h, p => by
    show Go (step st x >>= _) S _
    refine Go.bind ((h done x xs st S rfl p).mono ?_)
    rintro _ S1 ⟨st1, rfl, p1⟩
    have := Go.forOn P xs (done ++ [x]) st1 S1 (fun d y r st S e q => h d y r st S (by rw [← e, List.append_assoc]; rfl) q) p1
    rw [List.append_assoc] at this
    exact this
/-- a loop without a state of its own -/
theorem Go.forU {τ : Type} {step : Unit → Val → M (Fl Unit τ)} {P : Cells → Prop} : ∀ (items : List Val) (S : Cells), (∀ x ∈ items, ∀ S, P S → Go (step () x) S fun fl S' => fl = .nx () ∧ P S') → P S →
    Go (forM' step items ()) S fun fl S' => fl = .nx () ∧ P S'
  | [], S, _, p => ⟨_, S, rfl, rfl, p⟩
  | x :: xs, S, h, p => by
    show Go (step () x >>= _) S _
    refine Go.bind ((h x List.mem_cons_self S p).mono ?_)
    rintro _ S1 ⟨rfl, p1⟩
    exact Go.forU xs S1 (fun y m => h y (List.mem_cons_of_mem _ m)) p1
theorem Go.onlyNx {ρ τ : Type} {m : M (Fl ρ τ)} {Q : ρ → Cells → Prop} (h : Go m S fun fl S' => ∃ st, fl = .nx st ∧ Q st S') : Go (m >>= Tv.onlyNx) S Q := by
  refine Go.bind (h.mono ?_)
  rintro _ S1 ⟨st, rfl, q⟩
  exact ⟨st, S1, rfl, q⟩
theorem Go.onlyU {τ : Type} {m : M (Fl Unit τ)} {P : Cells → Prop} (h : Go m S fun fl S' => fl = .nx () ∧ P S') : Go (m >>= Tv.onlyNx) S fun _ S' => P S' := Go.onlyNx (h.mono fun _ S' q => ⟨(), q.1, q.2⟩)
theorem Go.nxRt {ρ τ : Type} {m : M (Fl ρ τ)} {Q : ρ ⊕ τ → Cells → Prop} (h : Go m S fun fl S' => ∃ st, fl = .nx st ∧ Q (.inl st) S') : Go (m >>= Tv.nxRt) S Q := by
  refine Go.bind (h.mono ?_)
  rintro _ S1 ⟨st, rfl, q⟩
  exact ⟨_, S1, rfl, q⟩
/-- a loop that never returns, and what follows -/
theorem Go.forThen {ρ τ : Type} {m : M (Fl Unit τ)} {P : Cells → Prop} {f : Unit → M ρ} {g : τ → ρ} {Q : ρ → Cells → Prop} (h : Go m S fun fl S' => fl = .nx () ∧ P S') (hf : ∀ S', P S' → Go (f ()) S' Q) : Go (m >>= Tv.nxRt >>= Tv.orRt f g) S Q := by
  refine Go.bind (Go.nxRt (h.mono fun _ S1 q => ⟨(), q.1, ?_⟩))
  exact hf S1 q.2
theorem Go.mapOn {f : Val → M Val} {P : Cells → Prop} {R : Val → Prop} : ∀ (items : List Val) (S : Cells), (∀ x ∈ items, ∀ S, P S → Go (f x) S fun y S' => R y ∧ P S') → P S →
    Go (mapM' f items) S fun ys S' => (ys.length = items.length ∧ ∀ y ∈ ys, R y) ∧ P S'
  | [], S, _, p => ⟨_, S, rfl, ⟨rfl, fun y m => nomatch m⟩, p⟩
  | x :: xs, S, h, p => by
    show Go (f x >>= _) S _
    refine Go.bind ((h x List.mem_cons_self S p).mono ?_)
    rintro y S1 ⟨r, p1⟩
    refine Go.bind ((Go.mapOn xs S1 (fun y m => h y (List.mem_cons_of_mem _ m)) p1).mono ?_)
    rintro ys S2 ⟨⟨hl, hr⟩, p2⟩
    refine ⟨_, S2, rfl, ⟨congrArg (· + 1) hl, fun z m => ?_⟩, p2⟩
    rcases List.mem_cons.mp m with e | m
    · subst e; exact r
    · exact hr z m
theorem Go.lcP {f : Val → M (Option Val)} {f' : Val → Res (Option Val)} (e : ∀ x, f x = Mon.of (f' x)) {ys : List Val} : ∀ {items : List Val} {Q : List Val → Cells → Prop}, lcM f' items = .ok ys → Q ys S → Go (lcM f items) S Q := by
  intro items
  induction items generalizing ys with
  | nil => intro Q h q; cases h; exact ⟨_, S, rfl, q⟩
  | cons x xs ih =>
    intro Q h q
    have h : (f' x >>= _) = _ := h
    show Go (f x >>= _) S _
    rw [e]
    cases c : f' x with
    | ok o =>
      rw [c, qOk] at h
      refine Go.bind (Go.of rfl ?_)
      cases d : lcM f' xs with
      | ok zs =>
        have h : (lcM f' xs >>= _) = _ := h
        rw [d, qOk] at h
        exact Go.bind (ih d (by cases h; exact Go.pure q))
      | exn _ _ =>
        have h : (lcM f' xs >>= _) = _ := h
        rw [d] at h; cases h
      | stuck =>
        have h : (lcM f' xs >>= _) = _ := h
        rw [d] at h; cases h
    | exn _ _ => rw [c] at h; cases h
    | stuck => rw [c] at h; cases h
end

theorem mOk {α β : Type} (a : α) (f : α → M β) : ((Mon.of (.ok a) : M α) >>= f) = f a := (rfl)
theorem mPure {α β : Type} (a : α) (f : α → M β) : ((Pure.pure a : M α) >>= f) = f a := (rfl)
theorem mNxOk {α : Type} (a : α) : (Mon.nx (Mon.of (.ok a) : M α) : M α) = Mon.of (.ok a) := (rfl)
theorem mNxL {ρ τ : Type} (st : ρ) : (Tv.nxRt (.nx st : Fl ρ τ) : M (ρ ⊕ τ)) = Pure.pure (.inl st) := (rfl)
theorem mNxR {ρ τ : Type} (t : τ) : (Tv.nxRt (.rt t : Fl ρ τ) : M (ρ ⊕ τ)) = Pure.pure (.inr t) := (rfl)
theorem mOrL {ρ ρ1 τ : Type} (f : ρ1 → M ρ) (g : τ → ρ) (x : ρ1) : orRt f g (.inl x) = f x := (rfl)
theorem mOrR {ρ ρ1 τ : Type} (f : ρ1 → M ρ) (g : τ → ρ) (x : τ) : orRt f g (.inr x : ρ1 ⊕ τ) = Pure.pure (g x) := (rfl)
theorem mForNil {ρ τ : Type} (step : ρ → Val → M (Fl ρ τ)) (st : ρ) : forM' step [] st = Pure.pure (.nx st) := (rfl)
theorem mForNx {ρ τ : Type} {step : ρ → Val → M (Fl ρ τ)} {x : Val} {xs : List Val} {st st1 : ρ} (h : step st x = Mon.of (.ok (.nx st1))) : forM' step (x :: xs) st = forM' step xs st1 := by
  show (step st x >>= _) = _
  rw [h]
  rfl
/-! ### cells that hold a pail -/
/-- cell n holds what draws come from -/
def Pail (n : Nat) (S : Cells) : Prop := ∃ a s t : Int, S[n]? = some (.lst [.int a, .int s, .int t]) ∧ 0 ≤ a ∧ 0 ≤ s
theorem Pail.lt {n : Nat} {S : Cells} (h : Pail n S) : n < S.length := by
  obtain ⟨a, s, t, e, _⟩ := h
  exact (List.getElem?_eq_some_iff.mp e).1
theorem goIx {n : Nat} {S : Cells} {xs : List Val} {i : Nat} {x : Val} {Q : Val → Cells → Prop} (h : S[n]? = some (.lst xs)) (hi : xs[i]? = some x) (q : Q x S) : Go (ixM (.cell n) (.int (i : Int))) S Q := by
  refine ⟨x, S, ?_, q⟩
  show (match cellL S n, asI (.int (i : Int)) with | some xs, some j => (ixV xs j, S) | _, _ => (.stuck, S)) = _
  have : cellL S n = some xs := by unfold cellL; rw [h]
  rw [this]
  show (ixV xs (i : Int), S) = _
  rw [qIx hi]
theorem goSet {n : Nat} {S : Cells} {xs : List Val} {i : Nat} {v : Val} {Q : Unit → Cells → Prop} (h : S[n]? = some (.lst xs)) (hi : i < xs.length) (hl : xs.length < 1000) (q : Q () (S.set n (.lst (xs.set i v)))) : Go (setM (.cell n) (.int (i : Int)) v) S Q := by
  refine ⟨(), _, ?_, q⟩
  show (match cellL S n, asI (.int (i : Int)) with | some xs, some k => (match L2.ixN xs.length k with | some j => (Res.ok (), S.set n (.lst (xs.set j v))) | none => (Res.stuck, S)) | _, _ => (Res.stuck, S)) = _
  have e1 : cellL S n = some xs := by unfold cellL; rw [h]
  have e2 : L2.ixN xs.length (i : Int) = some i := by
    unfold L2.ixN
    rw [if_pos (by omega), if_pos (by omega), Int.toNat_natCast]
  rw [e1]
  show (match L2.ixN xs.length (i : Int) with | some j => (Res.ok (), S.set n (.lst (xs.set j v))) | none => (.stuck, S)) = _
  rw [e2]
end Tv

/-! plain data: equality, repr -/
namespace Tv
open PySem PySem.Spec PyProof.Rows L2

/-! ### equality -/
theorem eqStr (a b : Str) : oEq (.str a) (.str b) = .ok (.bl (decide (a = b))) := by
  unfold oEq
  cases h : pdEq (.str a) (.str b) with
  | none => rfl
  | some c =>
    have h : (if SeqAt.shaped (.str a) && SeqAt.shaped (.str b) then some (PyData.eqv (.str a) (.str b)) else none) = some c := h
    split at h
    · cases h
      show Res.ok (Val.bl (PyData.eqv (.str a) (.str b))) = _
      unfold PyData.eqv
      rfl
    · cases h
theorem neStr (a b : Str) : oNe (.str a) (.str b) = .ok (.bl (!decide (a = b))) := by
  have h := eqStr a b
  unfold oEq at h
  unfold oNe
  cases c : pdEq (.str a) (.str b) with
  | none => rfl
  | some d =>
    rw [c] at h
    cases h
    rfl
theorem neSame (a : Str) : oNe (.str a) (.str a) = .ok (.bl false) := by rw [neStr, decide_eq_true rfl]; rfl
/-- equal data -/
def eqD (x y : Val) : Bool := match toPD x, toPD y with
  | some d, some e => PyData.eqv d e
  | _, _ => false
def okD (x : Val) : Bool := match toPD x with
  | some d => SeqAt.shaped d
  | none => false
theorem eqOk {x y : Val} (hx : okD x = true) (hy : okD y = true) : oEq x y = .ok (.bl (eqD x y)) ∧ oNe x y = .ok (.bl (!eqD x y)) := by
  unfold okD at hx hy
  unfold oEq oNe eqD pdEq
  cases h1 : toPD x with
  | none => rw [h1] at hx; cases hx
  | some d =>
    cases h2 : toPD y with
    | none => rw [h2] at hy; cases hy
    | some e =>
      rw [h1] at hx; rw [h2] at hy
      dsimp only at hx hy ⊢
      rw [hx, hy]
      exact ⟨rfl, rfl⟩
theorem eqD_self {x : Val} (hx : okD x = true) : eqD x x = true := by
  unfold okD at hx
  unfold eqD
  cases h1 : toPD x with
  | none => rw [h1] at hx; cases hx
  | some d =>
    rw [h1] at hx
    exact SeqAt.eqv_refl d (SeqAt.canLay_of_shaped hx)
theorem eqSame {x : Val} (hx : okD x = true) : oEq x x = .ok (.bl true) := by rw [(eqOk hx hx).1, eqD_self hx]
theorem neSameD {x : Val} (hx : okD x = true) : oNe x x = .ok (.bl false) := by rw [(eqOk hx hx).2, eqD_self hx]; rfl

/-! ### what is data -/
mutual
/-- flat data, lists and tuples of such, up to a depth -/
def dtB : Nat → Val → Bool
  | _, .non => true
  | _, .bl _ => true
  | _, .int _ => true
  | _, .str x => PyData.strOk x
  | n + 1, .lst xs => dtL n xs
  | n + 1, .tup xs => dtL n xs
  | _, _ => false
def dtL : Nat → List Val → Bool
  | _, [] => true
  | n, x :: xs => dtB n x && dtL n xs
end
mutual
theorem dtB_pd : ∀ {n : Nat} {x : Val}, dtB n x = true → ∃ d, toPD x = some d ∧ d.canLay0 = true ∧ d.depth ≤ n ∧ d.hasDict = false
  | _, .non, _ => ⟨.none, rfl, rfl, Nat.zero_le _, rfl⟩
  | _, .bl b, _ => ⟨.bool b, rfl, rfl, Nat.zero_le _, rfl⟩
  | _, .int i, _ => ⟨.int i, rfl, rfl, Nat.zero_le _, rfl⟩
  | _, .str s, h => ⟨.str s, rfl, by unfold PyData.canLay0; simpa [dtB] using h, Nat.zero_le _, rfl⟩
  | n + 1, .lst xs, h => by
    obtain ⟨ds, e, h1, h2, h3⟩ := dtL_pd (n := n) (xs := xs) (by simpa [dtB] using h)
    exact ⟨.list ds, by unfold toPD; rw [e]; rfl, by unfold PyData.canLay0; exact h1, by unfold PyData.depth; omega, by unfold PyData.hasDict; exact h3⟩
  | n + 1, .tup xs, h => by
    obtain ⟨ds, e, h1, h2, h3⟩ := dtL_pd (n := n) (xs := xs) (by simpa [dtB] using h)
    exact ⟨.tuple ds, by unfold toPD; rw [e]; rfl, by unfold PyData.canLay0; exact h1, by unfold PyData.depth; omega, by unfold PyData.hasDict; exact h3⟩
  | 0, .lst _, h => by simp [dtB] at h
  | 0, .tup _, h => by simp [dtB] at h
  | 0, .dic _, h => by simp [dtB] at h
  | _ + 1, .dic _, h => by simp [dtB] at h
  | 0, .obj _ _, h => by simp [dtB] at h
  | _ + 1, .obj _ _, h => by simp [dtB] at h
  | 0, .cell _, h => by simp [dtB] at h
  | _ + 1, .cell _, h => by simp [dtB] at h
  | 0, .scr _, h => by simp [dtB] at h
  | _ + 1, .scr _, h => by simp [dtB] at h
theorem dtL_pd : ∀ {n : Nat} {xs : List Val}, dtL n xs = true → ∃ ds, toPDs xs = some ds ∧ PyData.canLayAll0 ds = true ∧ PyData.depthAll ds ≤ n ∧ PyData.hasDictAll ds = false
  | _, [], _ => ⟨[], rfl, rfl, Nat.zero_le _, rfl⟩
  | n, x :: xs, h => by
    obtain ⟨h1, h2⟩ := Bool.and_eq_true_iff.mp (show (dtB n x && dtL n xs) = true by simpa [dtL] using h)
    obtain ⟨d, e1, a1, b1, c1⟩ := dtB_pd h1
    obtain ⟨ds, e2, a2, b2, c2⟩ := dtL_pd h2
    refine ⟨d :: ds, by unfold toPDs; rw [e1, e2], by unfold PyData.canLayAll0; rw [a1, a2]; rfl, by unfold PyData.depthAll; omega, by unfold PyData.hasDictAll; rw [c1, c2]; rfl⟩
end
theorem dt_ok {n : Nat} {x : Val} (h : dtB n x = true) (hn : n ≤ 64) : okD x = true := by
  obtain ⟨d, e, h1, h2, _⟩ := dtB_pd h
  unfold okD
  rw [e]
  show (d.canLay0 && decide (d.depth ≤ 64)) = true
  rw [h1, decide_eq_true (by omega)]; rfl
theorem dtL_all {n : Nat} : ∀ {xs : List Val}, (∀ x ∈ xs, dtB n x = true) → dtL n xs = true
  | [], _ => by unfold dtL; rfl
  | x :: xs, h => by
    unfold dtL
    rw [h x List.mem_cons_self, dtL_all fun y m => h y (List.mem_cons_of_mem _ m)]; rfl
theorem dtB_int (n : Nat) (i : Int) : dtB n (.int i) = true := by cases n <;> rfl
theorem dtB_bl (n : Nat) (b : Bool) : dtB n (.bl b) = true := by cases n <;> rfl
theorem dtB_non (n : Nat) : dtB n .non = true := by cases n <;> rfl
theorem dtB_lst {n : Nat} {xs : List Val} (h : ∀ x ∈ xs, dtB n x = true) : dtB (n + 1) (.lst xs) = true := by unfold dtB; exact dtL_all h
theorem dtB_tup {n : Nat} {xs : List Val} (h : ∀ x ∈ xs, dtB n x = true) : dtB (n + 1) (.tup xs) = true := by unfold dtB; exact dtL_all h

/-! ### equality of trees -/
mutual
/-- equality, told by the trees -/
def eqT : Val → Val → Bool
  | .non, .non => true
  | .bl a, .bl b => a == b
  | .bl a, .int j => (if a then 1 else 0) == j
  | .int i, .bl b => i == (if b then 1 else 0)
  | .int i, .int j => i == j
  | .str a, .str b => a == b
  | .lst xs, .lst ys => eqTs xs ys
  | .tup xs, .tup ys => eqTs xs ys
  | _, _ => false
def eqTs : List Val → List Val → Bool
  | [], [] => true
  | x :: xs, y :: ys => eqT x y && eqTs xs ys
  | _, _ => false
end
mutual
theorem eqv_T : ∀ {x y : Val} {d e : PyData}, toPD x = some d → toPD y = some e → PyData.eqv d e = eqT x y
  | .non, y, d, e, h1, h2 => by
    cases h1
    cases y with
    | lst ys => unfold toPD at h2; obtain ⟨_, _, rfl⟩ := Option.map_eq_some_iff.mp h2; simp [PyData.eqv, eqT]
    | tup ys => unfold toPD at h2; obtain ⟨_, _, rfl⟩ := Option.map_eq_some_iff.mp h2; simp [PyData.eqv, eqT]
    | _ => first | (cases h2; simp [PyData.eqv, eqT]) | cases h2
  | .bl a, y, d, e, h1, h2 => by
    cases h1
    cases y with
    | lst ys => unfold toPD at h2; obtain ⟨_, _, rfl⟩ := Option.map_eq_some_iff.mp h2; simp [PyData.eqv, eqT]
    | tup ys => unfold toPD at h2; obtain ⟨_, _, rfl⟩ := Option.map_eq_some_iff.mp h2; simp [PyData.eqv, eqT]
    | _ => first | (cases h2; simp [PyData.eqv, eqT]) | cases h2
  | .int a, y, d, e, h1, h2 => by
    cases h1
    cases y with
    | lst ys => unfold toPD at h2; obtain ⟨_, _, rfl⟩ := Option.map_eq_some_iff.mp h2; simp [PyData.eqv, eqT]
    | tup ys => unfold toPD at h2; obtain ⟨_, _, rfl⟩ := Option.map_eq_some_iff.mp h2; simp [PyData.eqv, eqT]
    | _ => first | (cases h2; simp [PyData.eqv, eqT]) | cases h2
  | .str a, y, d, e, h1, h2 => by
    cases h1
    cases y with
    | lst ys => unfold toPD at h2; obtain ⟨_, _, rfl⟩ := Option.map_eq_some_iff.mp h2; simp [PyData.eqv, eqT]
    | tup ys => unfold toPD at h2; obtain ⟨_, _, rfl⟩ := Option.map_eq_some_iff.mp h2; simp [PyData.eqv, eqT]
    | _ => first | (cases h2; simp [PyData.eqv, eqT]) | cases h2
  | .lst xs, y, d, e, h1, h2 => by
    unfold toPD at h1
    obtain ⟨ds, e1, rfl⟩ := Option.map_eq_some_iff.mp h1
    cases y with
    | lst ys =>
      unfold toPD at h2; obtain ⟨es, e2, rfl⟩ := Option.map_eq_some_iff.mp h2
      unfold PyData.eqv eqT
      exact eqv_Ts e1 e2
    | tup ys => unfold toPD at h2; obtain ⟨_, _, rfl⟩ := Option.map_eq_some_iff.mp h2; simp [PyData.eqv, eqT]
    | _ => first | (cases h2; simp [PyData.eqv, eqT]) | cases h2
  | .tup xs, y, d, e, h1, h2 => by
    unfold toPD at h1
    obtain ⟨ds, e1, rfl⟩ := Option.map_eq_some_iff.mp h1
    cases y with
    | tup ys =>
      unfold toPD at h2; obtain ⟨es, e2, rfl⟩ := Option.map_eq_some_iff.mp h2
      unfold PyData.eqv eqT
      exact eqv_Ts e1 e2
    | lst ys => unfold toPD at h2; obtain ⟨_, _, rfl⟩ := Option.map_eq_some_iff.mp h2; simp [PyData.eqv, eqT]
    | _ => first | (cases h2; simp [PyData.eqv, eqT]) | cases h2
  | .dic _, _, _, _, h1, _ => by cases h1
  | .obj _ _, _, _, _, h1, _ => by cases h1
  | .cell _, _, _, _, h1, _ => by cases h1
  | .scr _, _, _, _, h1, _ => by cases h1
theorem eqv_Ts : ∀ {xs ys : List Val} {ds es : List PyData}, toPDs xs = some ds → toPDs ys = some es → PyData.eqvAll ds es = eqTs xs ys
  | [], [], _, _, h1, h2 => by cases h1; cases h2; simp [PyData.eqvAll, eqTs]
  | [], y :: ys, _, _, h1, h2 => by
    cases h1
    unfold toPDs at h2
    split at h2
    · cases h2; simp [PyData.eqvAll, eqTs]
    · cases h2
  | x :: xs, [], _, _, h1, h2 => by
    cases h2
    unfold toPDs at h1
    split at h1
    · cases h1; simp [PyData.eqvAll, eqTs]
    · cases h1
  | x :: xs, y :: ys, _, _, h1, h2 => by
    unfold toPDs at h1 h2
    split at h1
    · rename_i d ds e1 e2
      cases h1
      split at h2
      · rename_i d' ds' e1' e2'
        cases h2
        unfold PyData.eqvAll eqTs
        rw [eqv_T e1 e1', eqv_Ts e2 e2']
      · cases h2
    · cases h1
end
theorem eqT_ok {x y : Val} {n m : Nat} (hx : dtB n x = true) (hy : dtB m y = true) (hn : n ≤ 64) (hm : m ≤ 64) : oEq x y = .ok (.bl (eqT x y)) ∧ oNe x y = .ok (.bl (!eqT x y)) := by
  obtain ⟨d, e1, _⟩ := dtB_pd hx
  obtain ⟨e, e2, _⟩ := dtB_pd hy
  have := eqOk (dt_ok hx hn) (dt_ok hy hm)
  have e3 : eqD x y = eqT x y := by
    unfold eqD
    rw [e1, e2]
    exact eqv_T e1 e2
  rwa [e3] at this
theorem eqTs_int : ∀ (xs ys : List Int), eqTs (xs.map .int) (ys.map .int) = decide (xs = ys)
  | [], [] => rfl
  | [], y :: ys => by rw [List.map_nil, List.map_cons]; unfold eqTs; simp
  | x :: xs, [] => by rw [List.map_nil, List.map_cons]; unfold eqTs; simp
  | x :: xs, y :: ys => by
    rw [List.map_cons, List.map_cons]
    unfold eqTs eqT
    rw [eqTs_int xs ys, Bool.eq_iff_iff]
    simp

/-! ### repr -/
mutual
def costD : PyData → Nat
  | .none => 4
  | .bool _ => 5
  | .int _ => 1921
  | .str x => (reprText x).length
  | .list xs => costAll xs + 3
  | .tuple xs => costAll xs + 3
  | .dict _ => 0
def costAll : List PyData → Nat
  | [] => 0
  | x :: xs => costD x + 2 + costAll xs
end
theorem textFrom_le : ∀ (ts : List Str) (k : Nat) (acc : Str), (textFrom k acc ts).length ≤ acc.length + (ts.map fun t : Str => t.length + 2).sum
  | [], k, acc => Nat.le_refl _
  | t :: ts, k, acc => by
    have h := textFrom_le ts (k + 1) (acc ++ (if k > 0 then ", " else "" : String) ++ t)
    have e : (acc ++ (if k > 0 then ", " else "" : String) ++ t).length ≤ acc.length + 2 + t.length := by
      rw [strLen_append, strLen_append]
      split
      · have : ((", " : String) : Str).length = 2 := rfl
        omega
      · have : (("" : String) : Str).length = 0 := rfl
        omega
    show (textFrom (k + 1) (acc ++ (if k > 0 then ", " else "" : String) ++ t) ts).length ≤ _
    rw [List.map_cons, List.sum_cons]
    omega
theorem join_le : ∀ (ts : List Str), (Str.join ", " ts).length ≤ (ts.map fun t : Str => t.length + 2).sum
  | [] => Nat.le_refl _
  | [t] => by simp [Str.join]
  | t :: u :: ts => by
    have h := join_le (u :: ts)
    show (t ++ ", " ++ Str.join ", " (u :: ts)).length ≤ _
    rw [strLen_append, strLen_append, List.map_cons, List.sum_cons]
    have : ((", " : String) : Str).length = 2 := rfl
    omega
mutual
theorem shown_le : ∀ d : PyData, d.showable = true → d.hasDict = false → d.shown.length ≤ costD d
  | .none, _, _ => by unfold PyData.shown costD; decide
  | .bool b, _, _ => by unfold PyData.shown costD; cases b <;> decide
  | .int i, h, _ => by
    unfold PyData.showable at h
    have := int_text_length_le (k := 1920) (by decide) (of_decide_eq_true h)
    unfold PyData.shown costD
    rw [PySem.ofString_length]
    exact this
  | .str x, _, _ => by unfold PyData.shown costD; exact Nat.le_refl _
  | .list xs, h, h2 => by
    unfold PyData.showable at h
    unfold PyData.hasDict at h2
    have := shownAll_le xs h h2
    unfold PyData.shown costD
    unfold listText
    rw [strLen_append]
    have h3 := textFrom_le (PyData.shownAll xs) 0 "["
    have e1 : (("[" : String) : Str).length = 1 := rfl
    have e2 : (("]" : String) : Str).length = 1 := rfl
    omega
  | .tuple xs, h, h2 => by
    unfold PyData.showable at h
    unfold PyData.hasDict at h2
    have := shownAll_le xs h h2
    unfold PyData.shown costD
    unfold tupleText
    rw [strLen_append, strLen_append]
    have h3 := join_le (PyData.shownAll xs)
    have e1 : (("(" : String) : Str).length = 1 := rfl
    split
    · have e2 : ((",)" : String) : Str).length = 2 := rfl
      omega
    · have e2 : ((")" : String) : Str).length = 1 := rfl
      omega
  | .dict _, _, h2 => by unfold PyData.hasDict at h2; cases h2
theorem shownAll_le : ∀ ds : List PyData, PyData.showableAll ds = true → PyData.hasDictAll ds = false → ((PyData.shownAll ds).map fun t : Str => t.length + 2).sum ≤ costAll ds
  | [], _, _ => by unfold PyData.shownAll costAll; exact Nat.le_refl _
  | d :: ds, h, h2 => by
    unfold PyData.showableAll at h
    unfold PyData.hasDictAll at h2
    obtain ⟨a1, a2⟩ := Bool.and_eq_true_iff.mp h
    obtain ⟨b1, b2⟩ := Bool.or_eq_false_iff.mp h2
    have h3 := shown_le d a1 b1
    have h4 := shownAll_le ds a2 b2
    unfold PyData.shownAll costAll
    rw [List.map_cons, List.sum_cons]
    omega
end
mutual
/-- a value's cost in signs -/
def cst : Val → Nat
  | .non => 4
  | .bl _ => 5
  | .int _ => 1921
  | .str x => (reprText x).length
  | .lst xs => csts xs + 3
  | .tup xs => csts xs + 3
  | _ => 0
def csts : List Val → Nat
  | [] => 0
  | x :: xs => cst x + 2 + csts xs
end
mutual
/-- its ints are not too great to be shown -/
def shB : Val → Bool
  | .int i => decide (i.natAbs.log2 < 1920)
  | .lst xs => shBs xs
  | .tup xs => shBs xs
  | _ => true
def shBs : List Val → Bool
  | [] => true
  | x :: xs => shB x && shBs xs
end
mutual
theorem cst_D : ∀ {x : Val} {d : PyData}, toPD x = some d → costD d = cst x ∧ d.showable = shB x
  | .non, _, h => by cases h; exact ⟨by simp [costD, cst], by simp [PyData.showable, shB]⟩
  | .bl b, _, h => by cases h; exact ⟨by simp [costD, cst], by simp [PyData.showable, shB]⟩
  | .int b, _, h => by cases h; exact ⟨by simp [costD, cst], by simp [PyData.showable, shB]⟩
  | .str b, _, h => by cases h; exact ⟨by simp [costD, cst], by simp [PyData.showable, shB]⟩
  | .lst xs, _, h => by
    unfold toPD at h
    obtain ⟨ds, e, rfl⟩ := Option.map_eq_some_iff.mp h
    obtain ⟨h1, h2⟩ := cst_Ds e
    exact ⟨by unfold costD cst; rw [h1], by unfold PyData.showable shB; rw [h2]⟩
  | .tup xs, _, h => by
    unfold toPD at h
    obtain ⟨ds, e, rfl⟩ := Option.map_eq_some_iff.mp h
    obtain ⟨h1, h2⟩ := cst_Ds e
    exact ⟨by unfold costD cst; rw [h1], by unfold PyData.showable shB; rw [h2]⟩
  | .dic _, _, h => by cases h
  | .obj _ _, _, h => by cases h
  | .cell _, _, h => by cases h
  | .scr _, _, h => by cases h
theorem cst_Ds : ∀ {xs : List Val} {ds : List PyData}, toPDs xs = some ds → costAll ds = csts xs ∧ PyData.showableAll ds = shBs xs
  | [], _, h => by cases h; exact ⟨by simp [costAll, csts], by simp [PyData.showableAll, shBs]⟩
  | x :: xs, _, h => by
    unfold toPDs at h
    split at h
    · rename_i d ds e1 e2
      cases h
      obtain ⟨a1, a2⟩ := cst_D e1
      obtain ⟨b1, b2⟩ := cst_Ds e2
      exact ⟨by unfold costAll csts; rw [a1, b1], by unfold PyData.showableAll shBs; rw [a2, b2]⟩
    · cases h
end
/-- repr works, and is what it is -/
def RepOk (v : Val) : Prop := ∃ s, fRepr [v] = .ok (.str s)
theorem repr_ok {v : Val} {n : Nat} (hv : (∃ xs, v = .lst xs) ∨ ∃ xs, v = .tup xs) (h : dtB n v = true) (hn : n ≤ 64) (hs : shB v = true) (hc : cst v ≤ 16000000) : RepOk v := by
  obtain ⟨d, e, h1, h2, h3⟩ := dtB_pd h
  obtain ⟨c1, c2⟩ := cst_D e
  have ok : okRepr d = true := by
    have := shown_le d (by rw [c2, hs]) h3
    have hsz : 16000000 ≤ sizeLine := by decide
    unfold okRepr
    rw [c2, hs, h3, decide_eq_true (show d.depth ≤ 64 by omega), decide_eq_true (show d.shown.length ≤ sizeLine by omega)]; rfl
  refine ⟨d.shown, ?_⟩
  rcases hv with ⟨xs, rfl⟩ | ⟨xs, rfl⟩
  · show (match toPD (.lst xs) with | some d => if okRepr d = true then Res.ok (Val.str d.shown) else .stuck | none => .stuck) = _
    rw [e]
    dsimp only
    rw [if_pos ok]
  · show (match toPD (.tup xs) with | some d => if okRepr d = true then Res.ok (Val.str d.shown) else .stuck | none => .stuck) = _
    rw [e]
    dsimp only
    rw [if_pos ok]
end Tv

/-! mirrors, printed by gen.py -/
namespace K47
open PySem PySem.Spec PyProof.Rows L2 Tv
def m__law_pull : List Val → M Val
  | [a_pail, a_many] => ((((Pure.pure a_pail) >>= fun x1 => (Pure.pure (.int 0)) >>= fun x2 => ixM x1 x2) >>= fun x3 => (Pure.pure (.int 0)) >>= fun x4 => Mon.of (oGt x3 x4 >>= vBl)) >>= fun t5 => if t5 = true then (((((Pure.pure a_pail) >>= fun x10 => (Pure.pure (.int 0)) >>= fun x11 => ixM x10 x11) >>= fun x8 => ((Pure.pure a_many) >>= fun x6 => (Pure.pure []) >>= fun xs7 => Pure.pure (x6 :: xs7)) >>= fun xs9 => Pure.pure (x8 :: xs9)) >>= fun xs12 => Mon.of (fDivmod xs12)) >>= fun x13 => on2 x13 fun x14 v_digit15 => (Pure.pure a_pail) >>= fun x16 => (Pure.pure (.int 0)) >>= fun x17 => setM x16 x17 x14 >>= fun _ => (Pure.pure v_digit15)) else ((((Pure.pure a_pail) >>= fun x18 => (Pure.pure (.int 2)) >>= fun x19 => ixM x18 x19) >>= fun x20 => (Pure.pure (.int 1)) >>= fun x21 => Mon.of (oAdd x20 x21)) >>= fun x22 => (Pure.pure a_pail) >>= fun x23 => (Pure.pure (.int 2)) >>= fun x24 => setM x23 x24 x22 >>= fun _ => ((((((((Pure.pure a_pail) >>= fun x27 => (Pure.pure (.int 1)) >>= fun x28 => ixM x27 x28) >>= fun x29 => (Pure.pure (.int 42013)) >>= fun x30 => Mon.of (oMul x29 x30)) >>= fun x35 => ((Pure.pure (.int 23003)) >>= fun x33 => ((Pure.pure a_pail) >>= fun x31 => (Pure.pure (.int 2)) >>= fun x32 => ixM x31 x32) >>= fun x34 => Mon.of (oMul x33 x34)) >>= fun x36 => Mon.of (oAdd x35 x36)) >>= fun x25 => (Pure.pure []) >>= fun xs26 => Pure.pure (x25 :: xs26)) >>= fun xs37 => Mon.of (fInt xs37)) >>= fun x38 => (Pure.pure (.int 2147483477)) >>= fun x39 => Mon.of (oMod x38 x39)) >>= fun x40 => (Pure.pure a_pail) >>= fun x41 => (Pure.pure (.int 1)) >>= fun x42 => setM x41 x42 x40 >>= fun _ => ((((((Pure.pure a_pail) >>= fun x45 => (Pure.pure (.int 1)) >>= fun x46 => ixM x45 x46) >>= fun x47 => (Pure.pure (.int 1024)) >>= fun x48 => Mon.of (oFdiv x47 x48)) >>= fun x43 => (Pure.pure []) >>= fun xs44 => Pure.pure (x43 :: xs44)) >>= fun xs49 => Mon.of (fInt xs49)) >>= fun x50 => (Pure.pure a_many) >>= fun x51 => Mon.of (oMod x50 x51)))))
  | _ => Mon.of .stuck
def m__law_drawn_lots : List Val → M Val
  | [a_pail] => ((((((Pure.pure (.int 1)) >>= fun x90 => ((Pure.pure (.int 1)) >>= fun x88 => ((Pure.pure (.int 1)) >>= fun x86 => (Pure.pure []) >>= fun xs87 => Pure.pure (x86 :: xs87)) >>= fun xs89 => Pure.pure (x88 :: xs89)) >>= fun xs91 => Pure.pure (x90 :: xs91)) >>= fun xs92 => Mon.of (vTup xs92)) >>= fun x84 => ((((Pure.pure (.int 1)) >>= fun x81 => ((Pure.pure (.int 1)) >>= fun x79 => ((Pure.pure (.int 3)) >>= fun x77 => (Pure.pure []) >>= fun xs78 => Pure.pure (x77 :: xs78)) >>= fun xs80 => Pure.pure (x79 :: xs80)) >>= fun xs82 => Pure.pure (x81 :: xs82)) >>= fun xs83 => Mon.of (vTup xs83)) >>= fun x75 => ((((Pure.pure (.int 1)) >>= fun x72 => ((Pure.pure (.int 1)) >>= fun x70 => ((Pure.pure (.int 3)) >>= fun x68 => ((Pure.pure (.int 8)) >>= fun x66 => (Pure.pure []) >>= fun xs67 => Pure.pure (x66 :: xs67)) >>= fun xs69 => Pure.pure (x68 :: xs69)) >>= fun xs71 => Pure.pure (x70 :: xs71)) >>= fun xs73 => Pure.pure (x72 :: xs73)) >>= fun xs74 => Mon.of (vTup xs74)) >>= fun x64 => ((((Pure.pure (.int 1)) >>= fun x61 => ((Pure.pure (.int 2)) >>= fun x59 => (Pure.pure []) >>= fun xs60 => Pure.pure (x59 :: xs60)) >>= fun xs62 => Pure.pure (x61 :: xs62)) >>= fun xs63 => Mon.of (vTup xs63)) >>= fun x57 => ((((Pure.pure (.int 1)) >>= fun x54 => ((Pure.pure (.int 1)) >>= fun x52 => ((Pure.pure (.int 4)) >>= fun x50 => (Pure.pure []) >>= fun xs51 => Pure.pure (x50 :: xs51)) >>= fun xs53 => Pure.pure (x52 :: xs53)) >>= fun xs55 => Pure.pure (x54 :: xs55)) >>= fun xs56 => Mon.of (vTup xs56)) >>= fun x48 => ((((Pure.pure (.int 1)) >>= fun x45 => ((Pure.pure (.int 2)) >>= fun x43 => ((Pure.pure (.int 4)) >>= fun x41 => (Pure.pure []) >>= fun xs42 => Pure.pure (x41 :: xs42)) >>= fun xs44 => Pure.pure (x43 :: xs44)) >>= fun xs46 => Pure.pure (x45 :: xs46)) >>= fun xs47 => Mon.of (vTup xs47)) >>= fun x39 => ((((Pure.pure (.int 1)) >>= fun x36 => ((Pure.pure (.int 1)) >>= fun x34 => ((Pure.pure (.int 3)) >>= fun x32 => ((Pure.pure (.int 3)) >>= fun x30 => (Pure.pure []) >>= fun xs31 => Pure.pure (x30 :: xs31)) >>= fun xs33 => Pure.pure (x32 :: xs33)) >>= fun xs35 => Pure.pure (x34 :: xs35)) >>= fun xs37 => Pure.pure (x36 :: xs37)) >>= fun xs38 => Mon.of (vTup xs38)) >>= fun x28 => ((((Pure.pure (.int 1)) >>= fun x25 => ((Pure.pure (.int 2)) >>= fun x23 => ((Pure.pure (.int 3)) >>= fun x21 => (Pure.pure []) >>= fun xs22 => Pure.pure (x21 :: xs22)) >>= fun xs24 => Pure.pure (x23 :: xs24)) >>= fun xs26 => Pure.pure (x25 :: xs26)) >>= fun xs27 => Mon.of (vTup xs27)) >>= fun x19 => ((((Pure.pure (.int 1)) >>= fun x16 => ((Pure.pure (.int 1)) >>= fun x14 => ((Pure.pure (.int 5)) >>= fun x12 => (Pure.pure []) >>= fun xs13 => Pure.pure (x12 :: xs13)) >>= fun xs15 => Pure.pure (x14 :: xs15)) >>= fun xs17 => Pure.pure (x16 :: xs17)) >>= fun xs18 => Mon.of (vTup xs18)) >>= fun x10 => ((((Pure.pure (.int 1)) >>= fun x7 => ((Pure.pure (.int 1)) >>= fun x5 => ((Pure.pure (.int 2)) >>= fun x3 => (Pure.pure []) >>= fun xs4 => Pure.pure (x3 :: xs4)) >>= fun xs6 => Pure.pure (x5 :: xs6)) >>= fun xs8 => Pure.pure (x7 :: xs8)) >>= fun xs9 => Mon.of (vTup xs9)) >>= fun x1 => (Pure.pure []) >>= fun xs2 => Pure.pure (x1 :: xs2)) >>= fun xs11 => Pure.pure (x10 :: xs11)) >>= fun xs20 => Pure.pure (x19 :: xs20)) >>= fun xs29 => Pure.pure (x28 :: xs29)) >>= fun xs40 => Pure.pure (x39 :: xs40)) >>= fun xs49 => Pure.pure (x48 :: xs49)) >>= fun xs58 => Pure.pure (x57 :: xs58)) >>= fun xs65 => Pure.pure (x64 :: xs65)) >>= fun xs76 => Pure.pure (x75 :: xs76)) >>= fun xs85 => Pure.pure (x84 :: xs85)) >>= fun xs93 => Mon.of (vLst xs93)) >>= fun v_menu94 => (((((Pure.pure a_pail) >>= fun x98 => ((Pure.pure (.int 2)) >>= fun x96 => (Pure.pure []) >>= fun xs97 => Pure.pure (x96 :: xs97)) >>= fun xs99 => Pure.pure (x98 :: xs99)) >>= fun xs95 => m__law_pull xs95) >>= fun x100 => (Pure.pure (.int 0)) >>= fun x101 => Mon.of (oEq x100 x101 >>= vBl)) >>= fun t102 => if t102 = true then ((Pure.pure v_menu94) >>= fun x103 => (((Pure.pure a_pail) >>= fun x107 => ((Pure.pure (.int 10)) >>= fun x105 => (Pure.pure []) >>= fun xs106 => Pure.pure (x105 :: xs106)) >>= fun xs108 => Pure.pure (x107 :: xs108)) >>= fun xs104 => m__law_pull xs104) >>= fun x109 => ixM x103 x109) else (((((((Pure.pure (.int 1)) >>= fun x119 => (((Pure.pure a_pail) >>= fun x117 => ((Pure.pure (.int 6)) >>= fun x115 => (Pure.pure []) >>= fun xs116 => Pure.pure (x115 :: xs116)) >>= fun xs118 => Pure.pure (x117 :: xs118)) >>= fun xs114 => m__law_pull xs114) >>= fun x120 => Mon.of (oAdd x119 x120)) >>= fun x112 => (Pure.pure []) >>= fun xs113 => Pure.pure (x112 :: xs113)) >>= fun xs121 => Mon.of (vRange1 xs121)) >>= fun xs122 => Mon.nx (mapM' (fun v124 => ((((Pure.pure (.int 1)) >>= fun x139 => ((Pure.pure (.int 1)) >>= fun x137 => ((Pure.pure (.int 2)) >>= fun x135 => ((Pure.pure (.int 3)) >>= fun x133 => ((Pure.pure (.int 5)) >>= fun x131 => ((Pure.pure (.int 8)) >>= fun x129 => ((Pure.pure (.int 40)) >>= fun x127 => ((Pure.pure (.int 1000)) >>= fun x125 => (Pure.pure []) >>= fun xs126 => Pure.pure (x125 :: xs126)) >>= fun xs128 => Pure.pure (x127 :: xs128)) >>= fun xs130 => Pure.pure (x129 :: xs130)) >>= fun xs132 => Pure.pure (x131 :: xs132)) >>= fun xs134 => Pure.pure (x133 :: xs134)) >>= fun xs136 => Pure.pure (x135 :: xs136)) >>= fun xs138 => Pure.pure (x137 :: xs138)) >>= fun xs140 => Pure.pure (x139 :: xs140)) >>= fun xs141 => Mon.of (vLst xs141)) >>= fun x142 => (((Pure.pure a_pail) >>= fun x146 => ((Pure.pure (.int 8)) >>= fun x144 => (Pure.pure []) >>= fun xs145 => Pure.pure (x144 :: xs145)) >>= fun xs147 => Pure.pure (x146 :: xs147)) >>= fun xs143 => m__law_pull xs143) >>= fun x148 => ixM x142 x148)) xs122) >>= fun ys123 => Mon.of (vLst ys123)) >>= fun x110 => (Pure.pure []) >>= fun xs111 => Pure.pure (x110 :: xs111)) >>= fun xs149 => Mon.of (fTuple xs149))))
  | _ => Mon.of .stuck
def m__law_sums : List Val → Res Val
  | [a_lots_here, a_most] => ((((Pure.pure (.int 0)) >>= fun x1 => (Pure.pure []) >>= fun xs2 => Pure.pure (x1 :: xs2)) >>= fun xs3 => Mon.of (vLst xs3)) >>= fun v_found4 => ((((Pure.pure a_lots_here) >>= fun x46 => Mon.of (vIter x46)) >>= fun xs47 => forM' (τ := Val) (fun st5 x6 => (((((Pure.pure (.int 20)) >>= fun x7 => (Pure.pure []) >>= fun xs8 => Pure.pure (x7 :: xs8)) >>= fun xs9 => Mon.of (vRange1 xs9)) >>= fun xs10 => Mon.nx (mapM' (fun v12 => ((((Pure.pure x6) >>= fun x13 => (Pure.pure v12) >>= fun x14 => Mon.of (oMul x13 x14)) >>= fun x17 => ((Pure.pure v12) >>= fun x15 => (Pure.pure (.int 1)) >>= fun x16 => Mon.of (oAdd x15 x16)) >>= fun x18 => Mon.of (oMul x17 x18)) >>= fun x19 => (Pure.pure (.int 2)) >>= fun x20 => Mon.of (oFdiv x19 x20))) xs10) >>= fun ys11 => Mon.of (vLst ys11)) >>= fun v_some21 => (((Pure.pure []) >>= fun xs22 => Mon.of (vLst xs22)) >>= fun v_fresh23 => ((((Pure.pure st5) >>= fun x41 => Mon.of (vIter x41)) >>= fun xs42 => forM' (τ := Val) (fun st24 x25 => (((Pure.pure st24) >>= fun x38 => (((Pure.pure v_some21) >>= fun x26 => Mon.of (vIter x26)) >>= fun xs27 => Mon.nx (lcM (fun v29 => (((Pure.pure x25) >>= fun x32 => (Pure.pure v29) >>= fun x33 => Mon.of (oAdd x32 x33)) >>= fun x34 => (Pure.pure a_most) >>= fun x35 => Mon.of (oLe x34 x35 >>= vBl)) >>= fun t37 => if t37 = true then ((Pure.pure x25) >>= fun x30 => (Pure.pure v29) >>= fun x31 => Mon.of (oAdd x30 x31)) >>= fun x36 => Pure.pure (some x36) else Pure.pure none) xs27) >>= fun ys28 => Mon.of (vLst ys28)) >>= fun x39 => Mon.of (oAdd x38 x39)) >>= fun v_fresh40 => (Pure.pure (.nx (v_fresh40 : Val))))) xs42 v_fresh23) >>= onlyNx >>= fun st43 => (((Pure.pure st43) >>= fun x44 => Mon.of (fSortedSet x44)) >>= fun v_found45 => (Pure.pure (.nx (v_found45 : Val)))))))) xs47 v_found4) >>= onlyNx >>= fun st48 => (Pure.pure st48)))
  | _ => Mon.of .stuck
def m_is_integer : List Val → Res Val
  | [a_value] => (((Pure.pure a_value) >>= fun x1 => Mon.of (fIsB "int" x1)) >>= fun x5 => Mon.of (vTruV x5) >>= fun x6 => if x6 = true then (((Pure.pure a_value) >>= fun x2 => Mon.of (fIsB "bool" x2)) >>= fun x3 => Mon.of (vTruV x3) >>= fun x4 => Pure.pure (.bl (!x4))) else Pure.pure x5)
  | _ => Mon.of .stuck
def m_is_between : List Val → Res Val
  | [a_value, a_low, a_high] => ((((Pure.pure a_value) >>= fun x2 => (Pure.pure []) >>= fun xs3 => Pure.pure (x2 :: xs3)) >>= fun xs1 => m_is_integer xs1) >>= fun x8 => Mon.of (vTruV x8) >>= fun x9 => if x9 = true then ((Pure.pure a_low) >>= fun x4 => (Pure.pure a_value) >>= fun x5 => Mon.of (oLe x4 x5 >>= vBl) >>= fun t7 => if t7 = true then (Pure.pure a_high) >>= fun x6 => Mon.of (oLe x5 x6) else Pure.pure (.bl false)) else Pure.pure x8)
  | _ => Mon.of .stuck
def m_check_lots : List Val → Res Val
  | [a_lots] => ((((((Pure.pure a_lots) >>= fun x1 => Mon.of (fIsB "tuple" x1)) >>= fun x2 => Mon.of (vTru x2)) >>= fun t3 => Pure.pure (!t3)) >>= fun t9 => if t9 = true then Pure.pure true else ((((Pure.pure a_lots) >>= fun x4 => (Pure.pure []) >>= fun xs5 => Pure.pure (x4 :: xs5)) >>= fun xs6 => Mon.of (fLen xs6)) >>= fun x7 => (Pure.pure (.int 0)) >>= fun x8 => Mon.of (oEq x7 x8 >>= vBl))) >>= fun t10 => if t10 = true then (Mon.of .stuck) else (((((Pure.pure a_lots) >>= fun x28 => (Pure.pure []) >>= fun xs29 => Pure.pure (x28 :: xs29)) >>= fun xs30 => Mon.of (vEnum xs30)) >>= fun xs31 => forM' (τ := Val) (fun st11 x12 => on2 x12 fun v_index13 v_lot14 => ((((Pure.pure v_index13) >>= fun x15 => (Pure.pure (.int 6)) >>= fun x16 => Mon.of (oEq x15 x16 >>= vBl)) >>= fun t26 => if t26 = true then Pure.pure true else (((((Pure.pure v_lot14) >>= fun x22 => ((Pure.pure (.int 1)) >>= fun x20 => ((Pure.pure (.int 1000)) >>= fun x18 => (Pure.pure []) >>= fun xs19 => Pure.pure (x18 :: xs19)) >>= fun xs21 => Pure.pure (x20 :: xs21)) >>= fun xs23 => Pure.pure (x22 :: xs23)) >>= fun xs17 => m_is_between xs17) >>= fun x24 => Mon.of (vTru x24)) >>= fun t25 => Pure.pure (!t25))) >>= fun t27 => if t27 = true then (Mon.of .stuck) else (Pure.pure (.nx (() : Unit))))) xs31 ()) >>= onlyNx >>= fun st32 => (Pure.pure .non)))
  | _ => Mon.of .stuck
def m_check_number : List Val → Res Val
  | [a_value] => ((((((Pure.pure a_value) >>= fun x6 => ((Pure.pure (.int 1)) >>= fun x4 => ((Pure.pure (.int 1000)) >>= fun x2 => (Pure.pure []) >>= fun xs3 => Pure.pure (x2 :: xs3)) >>= fun xs5 => Pure.pure (x4 :: xs5)) >>= fun xs7 => Pure.pure (x6 :: xs7)) >>= fun xs1 => m_is_between xs1) >>= fun x8 => Mon.of (vTru x8)) >>= fun t9 => Pure.pure (!t9)) >>= fun t10 => if t10 = true then (Mon.of .stuck) else (Pure.pure .non))
  | _ => Mon.of .stuck
def m_triangles_for : List Val → Res Val
  | [a_lot, a_number] => ((Pure.pure []) >>= fun o1 => (Pure.pure (.int 0)) >>= fun v_k2 => ((whileM' (τ := Val) (fun st3 => (((Pure.pure a_lot) >>= fun x10 => (((Pure.pure st3.2) >>= fun x6 => ((Pure.pure st3.2) >>= fun x4 => (Pure.pure (.int 1)) >>= fun x5 => Mon.of (oAdd x4 x5)) >>= fun x7 => Mon.of (oMul x6 x7)) >>= fun x8 => (Pure.pure (.int 2)) >>= fun x9 => Mon.of (oFdiv x8 x9)) >>= fun x11 => Mon.of (oMul x10 x11)) >>= fun x12 => (Pure.pure a_number) >>= fun x13 => Mon.of (oLe x12 x13 >>= vBl))) (fun st3 => ((((Pure.pure st3.2) >>= fun x24 => (((Pure.pure a_lot) >>= fun x22 => (((Pure.pure st3.2) >>= fun x18 => ((Pure.pure st3.2) >>= fun x16 => (Pure.pure (.int 1)) >>= fun x17 => Mon.of (oAdd x16 x17)) >>= fun x19 => Mon.of (oMul x18 x19)) >>= fun x20 => (Pure.pure (.int 2)) >>= fun x21 => Mon.of (oFdiv x20 x21)) >>= fun x23 => Mon.of (oMul x22 x23)) >>= fun x14 => (Pure.pure []) >>= fun xs15 => Pure.pure (x14 :: xs15)) >>= fun xs25 => Pure.pure (x24 :: xs25)) >>= fun xs26 => Mon.of (vTup xs26)) >>= fun x27 => Mon.of (roomL st3.1) >>= fun _ => ((Pure.pure (.int 1)) >>= fun x28 => Mon.of (ipOf (fun i j => i + j) st3.2 x28) >>= fun v_k29 => (Pure.pure (.nx (((st3.1 ++ [x27]), v_k29) : List Val × Val)))))) 5000 (o1, v_k2)) >>= onlyNx >>= fun st30 => (Pure.pure (.lst st30.1))))
  | _ => Mon.of .stuck
def m_ways_to : List Val → Res Val
  | [a_lots, a_number] => ((Pure.pure (.int 0)) >>= fun x2 => ((Pure.pure []) >>= fun xs1 => Mon.of (vTup xs1)) >>= fun x3 => Mon.of (match asKey x2 with | some j => .ok [(j, x3)] | none => .stuck) >>= fun kvs4 => ((((Pure.pure a_lots) >>= fun x38 => Mon.of (vIter x38)) >>= fun xs39 => forM' (τ := Val) (fun st6 x7 => ((Mon.nx (forM' (τ := Val) (fun st8 x9 => on2 x9 fun v_value10 v_row11 => ((((((Pure.pure x7) >>= fun x32 => (((Pure.pure a_number) >>= fun x30 => (Pure.pure v_value10) >>= fun x31 => Mon.of (oSub x30 x31)) >>= fun x28 => (Pure.pure []) >>= fun xs29 => Pure.pure (x28 :: xs29)) >>= fun xs33 => Pure.pure (x32 :: xs33)) >>= fun xs27 => m_triangles_for xs27) >>= fun x34 => Mon.of (vIter x34)) >>= fun xs35 => forM' (τ := Val) (fun st12 x13 => on2 x13 fun v_k14 v_more15 => (((Pure.pure v_value10) >>= fun x16 => (Pure.pure v_more15) >>= fun x17 => Mon.of (oAdd x16 x17)) >>= fun x24 => (((Pure.pure v_row11) >>= fun x20 => Mon.of (vSeq x20) >>= fun xs22 => ((Pure.pure v_k14) >>= fun x18 => (Pure.pure []) >>= fun xs19 => Pure.pure (x18 :: xs19)) >>= fun xs21 => Pure.pure (xs22 ++ xs21)) >>= fun xs23 => Mon.of (vTup xs23)) >>= fun x25 => Mon.of (keyR st12 x24) >>= fun j26 => (Pure.pure (.nx ((setdD st12 j26 x25) : List (Key × Val)))))) xs35 st8) >>= onlyNx >>= fun st36 => (Pure.pure (.nx (st36 : List (Key × Val)))))) (itemsV st6) [])) >>= onlyNx >>= fun st37 => (Pure.pure (.nx (st37 : List (Key × Val)))))) xs39 kvs4) >>= onlyNx >>= fun st40 => (Pure.pure (.dic st40))))
  | _ => Mon.of .stuck
def m_triangle_writing : List Val → Res Val
  | [a_lots, a_number] => ((((Pure.pure a_lots) >>= fun x2 => (Pure.pure []) >>= fun xs3 => Pure.pure (x2 :: xs3)) >>= fun xs1 => m_check_lots xs1) >>= fun _ => ((((Pure.pure a_number) >>= fun x5 => (Pure.pure []) >>= fun xs6 => Pure.pure (x5 :: xs6)) >>= fun xs4 => m_check_number xs4) >>= fun _ => ((((Pure.pure a_lots) >>= fun x10 => ((Pure.pure a_number) >>= fun x8 => (Pure.pure []) >>= fun xs9 => Pure.pure (x8 :: xs9)) >>= fun xs11 => Pure.pure (x10 :: xs11)) >>= fun xs7 => m_ways_to xs7) >>= fun x12 => Mon.of (asDic x12) >>= fun kvs13 => (Pure.pure a_number) >>= fun x14 => Mon.of (getD kvs13 x14))))
  | _ => Mon.of .stuck
def m_do_give : List Val → Res Val
  | [a_lots, a_number] => ((Pure.pure a_number) >>= fun x6 => (((Pure.pure a_lots) >>= fun x4 => ((Pure.pure a_number) >>= fun x2 => (Pure.pure []) >>= fun xs3 => Pure.pure (x2 :: xs3)) >>= fun xs5 => Pure.pure (x4 :: xs5)) >>= fun xs1 => m_ways_to xs1) >>= fun x7 => Mon.of (oInD x6 x7))
  | _ => Mon.of .stuck
def m_first_lacking : List Val → Res Val
  | [a_lots] => ((((Pure.pure (.tup (List.map Val.int [1, 2, 4, 5, 8]))) >>= fun x12 => Mon.of (vIter x12)) >>= fun xs13 => forM' (τ := Val) (fun st1 x2 => ((((((Pure.pure a_lots) >>= fun x6 => ((Pure.pure x2) >>= fun x4 => (Pure.pure []) >>= fun xs5 => Pure.pure (x4 :: xs5)) >>= fun xs7 => Pure.pure (x6 :: xs7)) >>= fun xs3 => m_do_give xs3) >>= fun x8 => Mon.of (vTru x8)) >>= fun t9 => Pure.pure (!t9)) >>= fun t10 => if t10 = true then ((Pure.pure x2) >>= fun v11 => Pure.pure (.rt v11)) else (Pure.pure (.nx (() : Unit))))) xs13 ()) >>= nxRt >>= orRt (fun st14 => (Pure.pure .non)) id)
  | _ => Mon.of .stuck
def m_least_triangle_missed : List Val → Res Val
  | [a_lots] => ((((Pure.pure a_lots) >>= fun x2 => (Pure.pure []) >>= fun xs3 => Pure.pure (x2 :: xs3)) >>= fun xs1 => m_check_lots xs1) >>= fun _ => (((Pure.pure a_lots) >>= fun x5 => (Pure.pure []) >>= fun xs6 => Pure.pure (x5 :: xs6)) >>= fun xs4 => m_first_lacking xs4))
  | _ => Mon.of .stuck
def m_triangles_all : List Val → Res Val
  | [a_lots] => ((((Pure.pure a_lots) >>= fun x2 => (Pure.pure []) >>= fun xs3 => Pure.pure (x2 :: xs3)) >>= fun xs1 => m_check_lots xs1) >>= fun _ => ((((Pure.pure a_lots) >>= fun x5 => (Pure.pure []) >>= fun xs6 => Pure.pure (x5 :: xs6)) >>= fun xs4 => m_first_lacking xs4) >>= fun x7 => (Pure.pure .non) >>= fun x8 => Mon.of (oIsN x7 x8)))
  | _ => Mon.of .stuck
def m__law_is_writing : List Val → Res Val
  | [a_lots_here, a_number_here, a_told] => ((((((Pure.pure a_told) >>= fun x1 => Mon.of (fIsB "tuple" x1)) >>= fun x2 => Mon.of (vTru x2)) >>= fun t3 => Pure.pure (!t3)) >>= fun t12 => if t12 = true then Pure.pure true else ((((Pure.pure a_told) >>= fun x4 => (Pure.pure []) >>= fun xs5 => Pure.pure (x4 :: xs5)) >>= fun xs6 => Mon.of (fLen xs6)) >>= fun x10 => (((Pure.pure a_lots_here) >>= fun x7 => (Pure.pure []) >>= fun xs8 => Pure.pure (x7 :: xs8)) >>= fun xs9 => Mon.of (fLen xs9)) >>= fun x11 => Mon.of (oNe x10 x11 >>= vBl))) >>= fun t13 => if t13 = true then (Pure.pure (.bl false)) else (((((Pure.pure a_told) >>= fun x14 => Mon.of (vIter x14)) >>= fun xs15 => Mon.nx (lcM (fun v17 => (((((Pure.pure v17) >>= fun x18 => Mon.of (fIsB "int" x18)) >>= fun x19 => Mon.of (vTru x19)) >>= fun t20 => Pure.pure (!t20)) >>= fun t26 => if t26 = true then Pure.pure true else ((((Pure.pure v17) >>= fun x21 => Mon.of (fIsB "bool" x21)) >>= fun x22 => Mon.of (vTru x22)) >>= fun t25 => if t25 = true then Pure.pure true else ((Pure.pure v17) >>= fun x23 => (Pure.pure (.int 0)) >>= fun x24 => Mon.of (oLt x23 x24 >>= vBl)))) >>= fun t28 => if t28 = true then (Pure.pure v17) >>= fun x27 => Pure.pure (some x27) else Pure.pure none) xs15) >>= fun ys16 => Mon.of (vLst ys16)) >>= fun x30 => ((Pure.pure []) >>= fun xs29 => Mon.of (vLst xs29)) >>= fun x31 => Mon.of (oNe x30 x31 >>= vBl)) >>= fun t32 => if t32 = true then (Pure.pure (.bl false)) else (((((((Pure.pure a_lots_here) >>= fun x37 => ((Pure.pure a_told) >>= fun x35 => (Pure.pure []) >>= fun xs36 => Pure.pure (x35 :: xs36)) >>= fun xs38 => Pure.pure (x37 :: xs38)) >>= fun xs39 => Mon.of (vZip xs39)) >>= fun xs40 => Mon.nx (mapM' (fun z_ => on2 z_ fun v42 v43 => ((((Pure.pure v42) >>= fun x44 => (Pure.pure v43) >>= fun x45 => Mon.of (oMul x44 x45)) >>= fun x48 => ((Pure.pure v43) >>= fun x46 => (Pure.pure (.int 1)) >>= fun x47 => Mon.of (oAdd x46 x47)) >>= fun x49 => Mon.of (oMul x48 x49)) >>= fun x50 => (Pure.pure (.int 2)) >>= fun x51 => Mon.of (oFdiv x50 x51))) xs40) >>= fun ys41 => Mon.of (vLst ys41)) >>= fun x33 => (Pure.pure []) >>= fun xs34 => Pure.pure (x33 :: xs34)) >>= fun xs52 => Mon.of (fSum xs52)) >>= fun x53 => (Pure.pure a_number_here) >>= fun x54 => Mon.of (oEq x53 x54))))
  | _ => Mon.of .stuck
def m_triangles_give : List Val → Res Val
  | [a_lots, a_number] => ((((Pure.pure a_lots) >>= fun x2 => (Pure.pure []) >>= fun xs3 => Pure.pure (x2 :: xs3)) >>= fun xs1 => m_check_lots xs1) >>= fun _ => ((((Pure.pure a_number) >>= fun x5 => (Pure.pure []) >>= fun xs6 => Pure.pure (x5 :: xs6)) >>= fun xs4 => m_check_number xs4) >>= fun _ => (((Pure.pure a_lots) >>= fun x10 => ((Pure.pure a_number) >>= fun x8 => (Pure.pure []) >>= fun xs9 => Pure.pure (x8 :: xs9)) >>= fun xs11 => Pure.pure (x10 :: xs11)) >>= fun xs7 => m_do_give xs7)))
  | _ => Mon.of .stuck
def m__law_right : List Val → M Val
  | [a_pail] => (((((Pure.pure (.int 3)) >>= fun x189 => (Pure.pure []) >>= fun xs190 => Pure.pure (x189 :: xs190)) >>= fun xs191 => Mon.of (vRange1 xs191)) >>= fun xs192 => forM' (τ := Val) (fun st1 x2 => ((((Pure.pure a_pail) >>= fun x4 => (Pure.pure []) >>= fun xs5 => Pure.pure (x4 :: xs5)) >>= fun xs3 => m__law_drawn_lots xs3) >>= fun v_lots_here6 => ((((Pure.pure v_lots_here6) >>= fun x10 => ((Pure.pure (.int 60)) >>= fun x8 => (Pure.pure []) >>= fun xs9 => Pure.pure (x8 :: xs9)) >>= fun xs11 => Pure.pure (x10 :: xs11)) >>= fun xs7 => Mon.of (m__law_sums xs7)) >>= fun v_some12 => (((((Pure.pure (.int 1)) >>= fun x15 => ((Pure.pure (.int 61)) >>= fun x13 => (Pure.pure []) >>= fun xs14 => Pure.pure (x13 :: xs14)) >>= fun xs16 => Pure.pure (x15 :: xs16)) >>= fun xs17 => Mon.of (vRange2 xs17)) >>= fun xs18 => Mon.nx (lcM (fun v20 => ((Pure.pure v20) >>= fun x21 => (Pure.pure v_some12) >>= fun x22 => Mon.of (oNotInD x21 x22 >>= vBl)) >>= fun t24 => if t24 = true then (Pure.pure v20) >>= fun x23 => Pure.pure (some x23) else Pure.pure none) xs18) >>= fun ys19 => Mon.of (vLst ys19)) >>= fun v_lost25 => (((((Pure.pure (.int 8)) >>= fun x123 => (Pure.pure []) >>= fun xs124 => Pure.pure (x123 :: xs124)) >>= fun xs125 => Mon.of (vRange1 xs125)) >>= fun xs126 => forM' (τ := Val) (fun st26 x27 => (((Pure.pure (.int 1)) >>= fun x33 => (((Pure.pure a_pail) >>= fun x31 => ((Pure.pure (.int 60)) >>= fun x29 => (Pure.pure []) >>= fun xs30 => Pure.pure (x29 :: xs30)) >>= fun xs32 => Pure.pure (x31 :: xs32)) >>= fun xs28 => m__law_pull xs28) >>= fun x34 => Mon.of (oAdd x33 x34)) >>= fun v_number_here35 => (((Pure.pure v_number_here35) >>= fun x36 => (Pure.pure v_some12) >>= fun x37 => Mon.of (oInD x36 x37)) >>= fun v_due38 => (((((((((Pure.pure v_lots_here6) >>= fun x54 => ((Pure.pure v_number_here35) >>= fun x52 => (Pure.pure []) >>= fun xs53 => Pure.pure (x52 :: xs53)) >>= fun xs55 => Pure.pure (x54 :: xs55)) >>= fun xs51 => Mon.of (m_triangles_give xs51)) >>= fun x49 => ((((Pure.pure v_number_here35) >>= fun x46 => ((Pure.pure v_lots_here6) >>= fun x44 => (Pure.pure []) >>= fun xs45 => Pure.pure (x44 :: xs45)) >>= fun xs47 => Pure.pure (x46 :: xs47)) >>= fun zs48 => Mon.of (chkN 0 2 [] zs48) >>= fun _ => Mon.of (m_triangles_give (pickL .non [1, 0] zs48))) >>= fun x41 => (Pure.pure []) >>= fun xs42 => Pure.pure (x41 :: xs42)) >>= fun xs50 => Pure.pure (x49 :: xs50)) >>= fun xs56 => Mon.of (vLst xs56)) >>= fun x39 => (Pure.pure []) >>= fun xs40 => Pure.pure (x39 :: xs40)) >>= fun xs57 => Mon.of (fRepr xs57)) >>= fun x66 => (((((Pure.pure v_due38) >>= fun x62 => ((Pure.pure v_due38) >>= fun x60 => (Pure.pure []) >>= fun xs61 => Pure.pure (x60 :: xs61)) >>= fun xs63 => Pure.pure (x62 :: xs63)) >>= fun xs64 => Mon.of (vLst xs64)) >>= fun x58 => (Pure.pure []) >>= fun xs59 => Pure.pure (x58 :: xs59)) >>= fun xs65 => Mon.of (fRepr xs65)) >>= fun x67 => Mon.of (oNe x66 x67 >>= vBl)) >>= fun t68 => if t68 = true then ((Pure.pure (.bl false)) >>= fun v69 => Pure.pure (.rt v69)) else ((((((((Pure.pure v_lots_here6) >>= fun x98 => ((Pure.pure v_number_here35) >>= fun x96 => (Pure.pure []) >>= fun xs97 => Pure.pure (x96 :: xs97)) >>= fun xs99 => Pure.pure (x98 :: xs99)) >>= fun xs95 => Mon.of (m_triangle_writing xs95)) >>= fun x93 => ((((Pure.pure v_number_here35) >>= fun x90 => (((Pure.pure v_lots_here6) >>= fun x87 => Mon.of (oRev x87)) >>= fun x88 => (Pure.pure []) >>= fun xs89 => Pure.pure (x88 :: xs89)) >>= fun xs91 => Pure.pure (x90 :: xs91)) >>= fun zs92 => Mon.of (chkN 0 2 [] zs92) >>= fun _ => Mon.of (m_triangle_writing (pickL .non [1, 0] zs92))) >>= fun x84 => (Pure.pure []) >>= fun xs85 => Pure.pure (x84 :: xs85)) >>= fun xs94 => Pure.pure (x93 :: xs94)) >>= fun xs100 => Mon.of (vLst xs100)) >>= fun x101 => Mon.of (vIter x101)) >>= fun xs102 => forM' (τ := Val) (fun st70 x71 => ((((((Pure.pure v_due38) >>= fun x72 => Mon.of (vTru x72)) >>= fun t73 => Pure.pure (!t73)) >>= fun t76 => if t76 = true then ((Pure.pure x71) >>= fun x74 => (Pure.pure .non) >>= fun x75 => Mon.of (oNotN x74 x75 >>= vBl)) else Pure.pure false) >>= fun t81 => if t81 = true then Pure.pure true else (((Pure.pure v_due38) >>= fun x77 => Mon.of (vTru x77)) >>= fun t80 => if t80 = true then ((Pure.pure x71) >>= fun x78 => (Pure.pure .non) >>= fun x79 => Mon.of (oIsN x78 x79 >>= vBl)) else Pure.pure false)) >>= fun t82 => if t82 = true then ((Pure.pure (.bl false)) >>= fun v83 => Pure.pure (.rt v83)) else (Pure.pure (.nx (() : Unit))))) xs102 ()) >>= nxRt >>= orRt (fun st103 => ((((Pure.pure v_lots_here6) >>= fun x107 => ((Pure.pure v_number_here35) >>= fun x105 => (Pure.pure []) >>= fun xs106 => Pure.pure (x105 :: xs106)) >>= fun xs108 => Pure.pure (x107 :: xs108)) >>= fun xs104 => Mon.of (m_triangle_writing xs104)) >>= fun v_told109 => ((((Pure.pure v_due38) >>= fun x110 => Mon.of (vTru x110)) >>= fun t120 => if t120 = true then (((((Pure.pure v_lots_here6) >>= fun x116 => ((Pure.pure v_number_here35) >>= fun x114 => ((Pure.pure v_told109) >>= fun x112 => (Pure.pure []) >>= fun xs113 => Pure.pure (x112 :: xs113)) >>= fun xs115 => Pure.pure (x114 :: xs115)) >>= fun xs117 => Pure.pure (x116 :: xs117)) >>= fun xs111 => Mon.of (m__law_is_writing xs111)) >>= fun x118 => Mon.of (vTru x118)) >>= fun t119 => Pure.pure (!t119)) else Pure.pure false) >>= fun t121 => if t121 = true then ((Pure.pure (.bl false)) >>= fun v122 => Pure.pure (.rt v122)) else (Pure.pure (.nx (() : Unit)))))) (fun t => Fl.rt t)))))) xs126 ()) >>= nxRt >>= orRt (fun st127 => ((((Pure.pure v_lost25) >>= fun x129 => ((Pure.pure []) >>= fun xs128 => Mon.of (vLst xs128)) >>= fun x130 => Mon.of (oNe x129 x130 >>= vBl)) >>= fun t133 => if t133 = true then ((Pure.pure v_lost25) >>= fun x131 => (Pure.pure (.int 0)) >>= fun x132 => ixM x131 x132) else (Pure.pure .non)) >>= fun v_least_here134 => ((((((Pure.pure v_lots_here6) >>= fun x150 => (Pure.pure []) >>= fun xs151 => Pure.pure (x150 :: xs151)) >>= fun xs149 => Mon.of (m_least_triangle_missed xs149)) >>= fun x147 => (((((Pure.pure v_lots_here6) >>= fun x143 => Mon.of (oRev x143)) >>= fun x144 => (Pure.pure []) >>= fun xs145 => Pure.pure (x144 :: xs145)) >>= fun zs146 => Mon.of (chkN 0 1 [] zs146) >>= fun _ => Mon.of (m_least_triangle_missed (pickL .non [0] zs146))) >>= fun x140 => ((((Pure.pure v_lots_here6) >>= fun x138 => (Pure.pure []) >>= fun xs139 => Pure.pure (x138 :: xs139)) >>= fun xs137 => Mon.of (m_triangles_all xs137)) >>= fun x135 => (Pure.pure []) >>= fun xs136 => Pure.pure (x135 :: xs136)) >>= fun xs141 => Pure.pure (x140 :: xs141)) >>= fun xs148 => Pure.pure (x147 :: xs148)) >>= fun xs152 => Mon.of (vLst xs152)) >>= fun v_told153 => (((Pure.pure v_told153) >>= fun x161 => (((((Pure.pure v_lots_here6) >>= fun x157 => (Pure.pure []) >>= fun xs158 => Pure.pure (x157 :: xs158)) >>= fun zs159 => Mon.of (chkN 0 1 [] zs159) >>= fun _ => Mon.of (m_triangles_all (pickL .non [0] zs159))) >>= fun x154 => (Pure.pure []) >>= fun xs155 => Pure.pure (x154 :: xs155)) >>= fun xs160 => Mon.of (vLst xs160)) >>= fun x162 => Mon.of (oAdd x161 x162)) >>= fun v_told163 => (((((Pure.pure v_told163) >>= fun x164 => (Pure.pure []) >>= fun xs165 => Pure.pure (x164 :: xs165)) >>= fun xs166 => Mon.of (fRepr xs166)) >>= fun x185 => (((((((Pure.pure v_least_here134) >>= fun x169 => (Pure.pure []) >>= fun xs170 => Pure.pure (x169 :: xs170)) >>= fun xs171 => Mon.of (vLst xs171)) >>= fun x172 => (Pure.pure (.int 2)) >>= fun x173 => Mon.of (oMul x172 x173)) >>= fun x182 => (((((Pure.pure v_lost25) >>= fun x177 => ((Pure.pure []) >>= fun xs176 => Mon.of (vLst xs176)) >>= fun x178 => Mon.of (oEq x177 x178)) >>= fun x174 => (Pure.pure []) >>= fun xs175 => Pure.pure (x174 :: xs175)) >>= fun xs179 => Mon.of (vLst xs179)) >>= fun x180 => (Pure.pure (.int 2)) >>= fun x181 => Mon.of (oMul x180 x181)) >>= fun x183 => Mon.of (oAdd x182 x183)) >>= fun x167 => (Pure.pure []) >>= fun xs168 => Pure.pure (x167 :: xs168)) >>= fun xs184 => Mon.of (fRepr xs184)) >>= fun x186 => Mon.of (oNe x185 x186 >>= vBl)) >>= fun t187 => if t187 = true then ((Pure.pure (.bl false)) >>= fun v188 => Pure.pure (.rt v188)) else (Pure.pure (.nx (() : Unit)))))))) (fun t => Fl.rt t)))))) xs192 ()) >>= nxRt >>= orRt (fun st193 => (Pure.pure (.bl true))) id)
  | _ => Mon.of .stuck
def m__law_quiet : List Val → M Val
  | [a_pail] => (Mon.nx ((((Pure.pure a_pail) >>= fun x2 => (Pure.pure []) >>= fun xs3 => Pure.pure (x2 :: xs3)) >>= fun xs1 => m__law_right xs1) >>= fun v_is_right4 => (Pure.pure (v_is_right4 : Val))) >>= fun st5 => (Pure.pure st5))
  | _ => Mon.of .stuck
def m__law_pail : List Val → M Val
  | [a_script, a_turn] => ((((Pure.pure a_turn) >>= fun x4 => (((Pure.pure a_script) >>= fun x1 => (Pure.pure []) >>= fun xs2 => Pure.pure (x1 :: xs2)) >>= fun xs3 => Mon.of (fLen xs3)) >>= fun x5 => Mon.of (oLt x4 x5 >>= vBl)) >>= fun t12 => if t12 = true then ((Pure.pure a_script) >>= fun x6 => (Pure.pure a_turn) >>= fun x7 => ixM x6 x7) else (((Pure.pure (.int 31)) >>= fun x8 => (Pure.pure a_turn) >>= fun x9 => Mon.of (oMul x8 x9)) >>= fun x10 => (Pure.pure (.int 9)) >>= fun x11 => Mon.of (oAdd x10 x11))) >>= fun v_figure13 => (((Pure.pure (.int 122949823)) >>= fun x16 => ((Pure.pure (.int 36007)) >>= fun x14 => (Pure.pure a_turn) >>= fun x15 => Mon.of (oMul x14 x15)) >>= fun x17 => Mon.of (oAdd x16 x17)) >>= fun v_seed18 => (((((((Pure.pure v_figure13) >>= fun x31 => (Pure.pure []) >>= fun xs32 => Pure.pure (x31 :: xs32)) >>= fun xs33 => Mon.of (vLst xs33)) >>= fun x38 => ((Pure.pure a_script) >>= fun x34 => (Pure.pure none) >>= fun l36 => ((Pure.pure (.int 6)) >>= fun x35 => Mon.of (asInt x35)) >>= fun h37 => Mon.of (oSl x34 l36 h37)) >>= fun x39 => Mon.of (oAdd x38 x39)) >>= fun x40 => Mon.of (vIter x40)) >>= fun xs41 => forM' (τ := Val) (fun st19 x20 => (((((((Pure.pure st19) >>= fun x23 => (Pure.pure (.int 47057)) >>= fun x24 => Mon.of (oMul x23 x24)) >>= fun x25 => (Pure.pure x20) >>= fun x26 => Mon.of (oAdd x25 x26)) >>= fun x21 => (Pure.pure []) >>= fun xs22 => Pure.pure (x21 :: xs22)) >>= fun xs27 => Mon.of (fInt xs27)) >>= fun x28 => (Pure.pure (.int 2147483477)) >>= fun x29 => Mon.of (oMod x28 x29)) >>= fun v_seed30 => (Pure.pure (.nx (v_seed30 : Val))))) xs41 v_seed18) >>= onlyNx >>= fun st42 => (((((((Pure.pure v_figure13) >>= fun x49 => (Pure.pure []) >>= fun xs50 => Pure.pure (x49 :: xs50)) >>= fun xs51 => Mon.of (fAbs xs51)) >>= fun x54 => ((Pure.pure (.int 10)) >>= fun x52 => (Pure.pure (.int 18)) >>= fun x53 => Mon.of (oPow x52 x53)) >>= fun x55 => Mon.of (oGe x54 x55 >>= vBl)) >>= fun t59 => if t59 = true then (((Pure.pure v_figure13) >>= fun x56 => (Pure.pure []) >>= fun xs57 => Pure.pure (x56 :: xs57)) >>= fun xs58 => Mon.of (fAbs xs58)) else (Pure.pure (.int 0))) >>= fun x47 => ((Pure.pure st42) >>= fun x45 => ((Pure.pure (.int 0)) >>= fun x43 => (Pure.pure []) >>= fun xs44 => Pure.pure (x43 :: xs44)) >>= fun xs46 => Pure.pure (x45 :: xs46)) >>= fun xs48 => Pure.pure (x47 :: xs48)) >>= fun xs60 => newC xs60))))
  | _ => Mon.of .stuck
def m_law : List Val → M Val
  | [a_script] => ((((((((Pure.pure (.int 2)) >>= fun x15 => ((((((Pure.pure a_script) >>= fun x11 => (Pure.pure []) >>= fun xs12 => Pure.pure (x11 :: xs12)) >>= fun xs13 => Mon.of (fLen xs13)) >>= fun x9 => ((Pure.pure (.int 4)) >>= fun x7 => (Pure.pure []) >>= fun xs8 => Pure.pure (x7 :: xs8)) >>= fun xs10 => Pure.pure (x9 :: xs10)) >>= fun xs14 => Mon.of (fMin xs14)) >>= fun x5 => (Pure.pure []) >>= fun xs6 => Pure.pure (x5 :: xs6)) >>= fun xs16 => Pure.pure (x15 :: xs16)) >>= fun xs17 => Mon.of (fMax xs17)) >>= fun x3 => (Pure.pure []) >>= fun xs4 => Pure.pure (x3 :: xs4)) >>= fun xs18 => Mon.of (vRange1 xs18)) >>= fun xs19 => Mon.nx (mapM' (fun v21 => (((((Pure.pure a_script) >>= fun x28 => ((Pure.pure v21) >>= fun x26 => (Pure.pure []) >>= fun xs27 => Pure.pure (x26 :: xs27)) >>= fun xs29 => Pure.pure (x28 :: xs29)) >>= fun xs25 => m__law_pail xs25) >>= fun x23 => (Pure.pure []) >>= fun xs24 => Pure.pure (x23 :: xs24)) >>= fun xs22 => m__law_quiet xs22)) xs19) >>= fun ys20 => Mon.of (vLst ys20)) >>= fun x1 => (Pure.pure []) >>= fun xs2 => Pure.pure (x1 :: xs2)) >>= fun xs30 => Mon.of (fAll xs30))
  | _ => Mon.of .stuck
end K47

/-! plain mirrors, printed by gen.py -/
namespace K47
open PySem PySem.Spec PyProof.Rows L2 Tv
def n__law_pull (a_pail a_many : Val) : M Val :=
  (ixM a_pail (.int 0) >>= fun x3 => Mon.of (oGt x3 (.int 0) >>= vBl)) >>= fun t5 =>
  if t5 = true then
    (((ixM a_pail (.int 0) >>= fun x8 => Pure.pure [x8, a_many]) >>= fun xs12 => Mon.of (fDivmod xs12)) >>= fun x13 =>
    on2 x13 (fun x14 v_digit15 => setM a_pail (.int 0) x14 >>= fun _ => Pure.pure v_digit15))
  else
    ((ixM a_pail (.int 2) >>= fun x20 => Mon.of (oAdd x20 (.int 1))) >>= fun x22 =>
    setM a_pail (.int 2) x22 >>= fun _ =>
    (((((ixM a_pail (.int 1) >>= fun x29 => Mon.of (oMul x29 (.int 42013))) >>= fun x35 => (ixM a_pail (.int 2) >>= fun x34 => Mon.of (oMul (.int 23003) x34)) >>= fun x36 => Mon.of (oAdd x35 x36)) >>= fun x25 => Pure.pure [x25]) >>= fun xs37 => Mon.of (fInt xs37)) >>= fun x38 => Mon.of (oMod x38 (.int 2147483477))) >>= fun x40 =>
    setM a_pail (.int 1) x40 >>= fun _ =>
    (((ixM a_pail (.int 1) >>= fun x47 => Mon.of (oFdiv x47 (.int 1024))) >>= fun x43 => Pure.pure [x43]) >>= fun xs49 => Mon.of (fInt xs49)) >>= fun x50 =>
    Mon.of (oMod x50 a_many))
theorem q__law_pull (a_pail a_many : Val) : m__law_pull [a_pail, a_many] = n__law_pull a_pail a_many := (rfl)
def l__law_drawn_lots_1 (a_pail : Val) : (Val) → M (Val) := fun v124 => Mon.of (vLst [.int 1, .int 1, .int 2, .int 3, .int 5, .int 8, .int 40, .int 1000]) >>= fun x142 =>
  m__law_pull [a_pail, .int 8] >>= fun x148 =>
  ixM x142 x148
def n__law_drawn_lots (a_pail : Val) : M Val :=
  ((Mon.of (vTup [.int 1, .int 1, .int 1]) >>= fun x84 => (Mon.of (vTup [.int 1, .int 1, .int 3]) >>= fun x75 => (Mon.of (vTup [.int 1, .int 1, .int 3, .int 8]) >>= fun x64 => (Mon.of (vTup [.int 1, .int 2]) >>= fun x57 => (Mon.of (vTup [.int 1, .int 1, .int 4]) >>= fun x48 => (Mon.of (vTup [.int 1, .int 2, .int 4]) >>= fun x39 => (Mon.of (vTup [.int 1, .int 1, .int 3, .int 3]) >>= fun x28 => (Mon.of (vTup [.int 1, .int 2, .int 3]) >>= fun x19 => (Mon.of (vTup [.int 1, .int 1, .int 5]) >>= fun x10 => (Mon.of (vTup [.int 1, .int 1, .int 2]) >>= fun x1 => Pure.pure [x1]) >>= fun xs11 => Pure.pure (x10 :: xs11)) >>= fun xs20 => Pure.pure (x19 :: xs20)) >>= fun xs29 => Pure.pure (x28 :: xs29)) >>= fun xs40 => Pure.pure (x39 :: xs40)) >>= fun xs49 => Pure.pure (x48 :: xs49)) >>= fun xs58 => Pure.pure (x57 :: xs58)) >>= fun xs65 => Pure.pure (x64 :: xs65)) >>= fun xs76 => Pure.pure (x75 :: xs76)) >>= fun xs85 => Pure.pure (x84 :: xs85)) >>= fun xs93 => Mon.of (vLst xs93)) >>= fun v_menu94 =>
  (m__law_pull [a_pail, .int 2] >>= fun x100 => Mon.of (oEq x100 (.int 0) >>= vBl)) >>= fun t102 =>
  if t102 = true then
    (m__law_pull [a_pail, .int 10] >>= fun x109 =>
    ixM v_menu94 x109)
  else
    ((((((m__law_pull [a_pail, .int 6] >>= fun x120 => Mon.of (oAdd (.int 1) x120)) >>= fun x112 => Pure.pure [x112]) >>= fun xs121 => Mon.of (vRange1 xs121)) >>= fun xs122 => Mon.nx (mapM' (l__law_drawn_lots_1 a_pail) xs122) >>= fun ys123 => Mon.of (vLst ys123)) >>= fun x110 => Pure.pure [x110]) >>= fun xs149 =>
    Mon.of (fTuple xs149))
theorem q__law_drawn_lots (a_pail : Val) : m__law_drawn_lots [a_pail] = n__law_drawn_lots a_pail := (rfl)
def l__law_sums_1 (x6 : Val) : (Val) → Res (Val) := fun v12 => (oMul x6 v12 >>= fun x17 => oAdd v12 (.int 1) >>= fun x18 => oMul x17 x18) >>= fun x19 =>
  oFdiv x19 (.int 2)
def l__law_sums_2 (x25 : Val) (a_most : Val) : (Val) → Res (Option Val) := fun v29 => (oAdd x25 v29 >>= fun x34 => oLe x34 a_most >>= vBl) >>= fun t37 =>
  if t37 = true then
    (oAdd x25 v29 >>= fun x36 =>
    Pure.pure (some x36))
  else
    (Pure.pure none)
def l__law_sums_3 (v_some21 : Val) (a_most : Val) : (Val) → (Val) → Res (Fl (Val) Val) := fun st24 x25 => ((vIter v_some21 >>= fun xs27 => Mon.nx (lcM (l__law_sums_2 x25 a_most) xs27) >>= fun ys28 => vLst ys28) >>= fun x39 => oAdd st24 x39) >>= fun v_fresh40 =>
  Pure.pure (.nx (v_fresh40 : Val))
def l__law_sums_4 (a_most : Val) : (Val) → (Val) → Res (Fl (Val) Val) := fun st5 x6 => (vRange1 [.int 20] >>= fun xs10 => Mon.nx (mapM' (l__law_sums_1 x6) xs10) >>= fun ys11 => vLst ys11) >>= fun v_some21 =>
  vLst [] >>= fun v_fresh23 =>
  ((vIter st5 >>= fun xs42 => forM' (τ := Val) (l__law_sums_3 v_some21 a_most) xs42 v_fresh23) >>= onlyNx) >>= fun st43 =>
  fSortedSet st43 >>= fun v_found45 =>
  Pure.pure (.nx (v_found45 : Val))
def n__law_sums (a_lots_here a_most : Val) : Res Val :=
  vLst [.int 0] >>= fun v_found4 =>
  ((vIter a_lots_here >>= fun xs47 => forM' (τ := Val) (l__law_sums_4 a_most) xs47 v_found4) >>= onlyNx) >>= fun st48 =>
  Pure.pure st48
theorem q__law_sums (a_lots_here a_most : Val) : m__law_sums [a_lots_here, a_most] = n__law_sums a_lots_here a_most := (rfl)
def n_is_integer (a_value : Val) : Res Val :=
  fIsB "int" a_value >>= fun x5 =>
  vTruV x5 >>= fun x6 =>
  if x6 = true then
    (fIsB "bool" a_value >>= fun x3 =>
    vTruV x3 >>= fun x4 =>
    Pure.pure (.bl (!x4)))
  else
    (Pure.pure x5)
theorem q_is_integer (a_value : Val) : m_is_integer [a_value] = n_is_integer a_value := (rfl)
def n_is_between (a_value a_low a_high : Val) : Res Val :=
  m_is_integer [a_value] >>= fun x8 =>
  vTruV x8 >>= fun x9 =>
  if x9 = true then
    ((oLe a_low a_value >>= vBl) >>= fun t7 =>
    if t7 = true then
      (oLe a_value a_high)
    else
      (Pure.pure (.bl false)))
  else
    (Pure.pure x8)
theorem q_is_between (a_value a_low a_high : Val) : m_is_between [a_value, a_low, a_high] = n_is_between a_value a_low a_high := (rfl)
def l_check_lots_1 : (Unit) → (Val) → Res (Fl (Unit) Val) := fun st11 x12 => on2 x12 (fun v_index13 v_lot14 => ((oEq v_index13 (.int 6) >>= vBl) >>= fun t26 => if t26 = true then Pure.pure true else (m_is_between [v_lot14, .int 1, .int 1000] >>= fun x24 => vTru x24) >>= fun t25 => Pure.pure (!t25)) >>= fun t27 => if t27 = true then .stuck else Pure.pure (.nx (() : Unit)))
def n_check_lots (a_lots : Val) : Res Val :=
  (((fIsB "tuple" a_lots >>= fun x2 => vTru x2) >>= fun t3 => Pure.pure (!t3)) >>= fun t9 => if t9 = true then Pure.pure true else fLen [a_lots] >>= fun x7 => oEq x7 (.int 0) >>= vBl) >>= fun t10 =>
  if t10 = true then
    (.stuck)
  else
    (((vEnum [a_lots] >>= fun xs31 => forM' (τ := Val) l_check_lots_1 xs31 ()) >>= onlyNx) >>= fun st32 =>
    Pure.pure .non)
theorem q_check_lots (a_lots : Val) : m_check_lots [a_lots] = n_check_lots a_lots := (rfl)
def n_check_number (a_value : Val) : Res Val :=
  ((m_is_between [a_value, .int 1, .int 1000] >>= fun x8 => vTru x8) >>= fun t9 => Pure.pure (!t9)) >>= fun t10 =>
  if t10 = true then
    (.stuck)
  else
    (Pure.pure .non)
theorem q_check_number (a_value : Val) : m_check_number [a_value] = n_check_number a_value := (rfl)
def l_triangles_for_1 (a_lot : Val) (a_number : Val) : (List Val × Val) → Res (Bool) := fun st3 => (((oAdd st3.2 (.int 1) >>= fun x7 => oMul st3.2 x7) >>= fun x8 => oFdiv x8 (.int 2)) >>= fun x11 => oMul a_lot x11) >>= fun x12 =>
  oLe x12 a_number >>= vBl
def l_triangles_for_2 (a_lot : Val) : (List Val × Val) → Res (Fl (List Val × Val) Val) := fun st3 => ((((((oAdd st3.2 (.int 1) >>= fun x19 => oMul st3.2 x19) >>= fun x20 => oFdiv x20 (.int 2)) >>= fun x23 => oMul a_lot x23) >>= fun x14 => Pure.pure [x14]) >>= fun xs25 => Pure.pure (st3.2 :: xs25)) >>= fun xs26 => vTup xs26) >>= fun x27 =>
  roomL st3.1 >>= fun _ =>
  ipOf (fun i j => i + j) st3.2 (.int 1) >>= fun v_k29 =>
  Pure.pure (.nx ((st3.1 ++ [x27], v_k29) : List Val × Val))
def n_triangles_for (a_lot a_number : Val) : Res Val :=
  (whileM' (τ := Val) (l_triangles_for_1 a_lot a_number) (l_triangles_for_2 a_lot) 5000 ([], .int 0) >>= onlyNx) >>= fun st30 =>
  Pure.pure (.lst st30.1)
theorem q_triangles_for (a_lot a_number : Val) : m_triangles_for [a_lot, a_number] = n_triangles_for a_lot a_number := (rfl)
def l_ways_to_1 (v_value10 : Val) (v_row11 : Val) : (List (Key × Val)) → (Val) → Res (Fl (List (Key × Val)) Val) := fun st12 x13 => on2 x13 (fun v_k14 v_more15 => oAdd v_value10 v_more15 >>= fun x24 => ((vSeq v_row11 >>= fun xs22 => Pure.pure (xs22 ++ [v_k14])) >>= fun xs23 => vTup xs23) >>= fun x25 => keyR st12 x24 >>= fun j26 => Pure.pure (.nx (setdD st12 j26 x25 : List ( Key × Val ))))
def l_ways_to_2 (a_number : Val) (x7 : Val) : (List (Key × Val)) → (Val) → Res (Fl (List (Key × Val)) Val) := fun st8 x9 => on2 x9 (fun v_value10 v_row11 => ((((((oSub a_number v_value10 >>= fun x28 => Pure.pure [x28]) >>= fun xs33 => Pure.pure (x7 :: xs33)) >>= fun xs27 => m_triangles_for xs27) >>= fun x34 => vIter x34) >>= fun xs35 => forM' (τ := Val) (l_ways_to_1 v_value10 v_row11) xs35 st8) >>= onlyNx) >>= fun st36 => Pure.pure (.nx (st36 : List ( Key × Val ))))
def l_ways_to_3 (a_number : Val) : (List (Key × Val)) → (Val) → Res (Fl (List (Key × Val)) Val) := fun st6 x7 => (Mon.nx (forM' (τ := Val) (l_ways_to_2 a_number x7) (itemsV st6) []) >>= onlyNx) >>= fun st37 =>
  Pure.pure (.nx (st37 : List ( Key × Val )))
def n_ways_to (a_lots a_number : Val) : Res Val :=
  vTup [] >>= fun x3 =>
  (match asKey (.int 0) with | some j => .ok [ ( j , x3 ) ] | none => .stuck) >>= fun kvs4 =>
  ((vIter a_lots >>= fun xs39 => forM' (τ := Val) (l_ways_to_3 a_number) xs39 kvs4) >>= onlyNx) >>= fun st40 =>
  Pure.pure (.dic st40)
theorem q_ways_to (a_lots a_number : Val) : m_ways_to [a_lots, a_number] = n_ways_to a_lots a_number := (rfl)
def n_triangle_writing (a_lots a_number : Val) : Res Val :=
  m_check_lots [a_lots] >>= fun _ =>
  m_check_number [a_number] >>= fun _ =>
  m_ways_to [a_lots, a_number] >>= fun x12 =>
  asDic x12 >>= fun kvs13 =>
  getD kvs13 a_number
theorem q_triangle_writing (a_lots a_number : Val) : m_triangle_writing [a_lots, a_number] = n_triangle_writing a_lots a_number := (rfl)
def n_do_give (a_lots a_number : Val) : Res Val :=
  m_ways_to [a_lots, a_number] >>= fun x7 =>
  oInD a_number x7
theorem q_do_give (a_lots a_number : Val) : m_do_give [a_lots, a_number] = n_do_give a_lots a_number := (rfl)
def l_first_lacking_1 (a_lots : Val) : (Unit) → (Val) → Res (Fl (Unit) Val) := fun st1 x2 => ((m_do_give [a_lots, x2] >>= fun x8 => vTru x8) >>= fun t9 => Pure.pure (!t9)) >>= fun t10 =>
  if t10 = true then
    (Pure.pure (.rt x2))
  else
    (Pure.pure (.nx (() : Unit)))
def n_first_lacking (a_lots : Val) : Res Val :=
  ((vIter (.tup (List.map Val.int [1, 2, 4, 5, 8])) >>= fun xs13 => forM' (τ := Val) (l_first_lacking_1 a_lots) xs13 ()) >>= nxRt) >>= orRt (fun st14 => Pure.pure .non) id
theorem q_first_lacking (a_lots : Val) : m_first_lacking [a_lots] = n_first_lacking a_lots := (rfl)
def n_least_triangle_missed (a_lots : Val) : Res Val :=
  m_check_lots [a_lots] >>= fun _ =>
  m_first_lacking [a_lots]
theorem q_least_triangle_missed (a_lots : Val) : m_least_triangle_missed [a_lots] = n_least_triangle_missed a_lots := (rfl)
def n_triangles_all (a_lots : Val) : Res Val :=
  m_check_lots [a_lots] >>= fun _ =>
  m_first_lacking [a_lots] >>= fun x7 =>
  oIsN x7 .non
theorem q_triangles_all (a_lots : Val) : m_triangles_all [a_lots] = n_triangles_all a_lots := (rfl)
def l__law_is_writing_1 : (Val) → Res (Option Val) := fun v17 => (((fIsB "int" v17 >>= fun x19 => vTru x19) >>= fun t20 => Pure.pure (!t20)) >>= fun t26 => if t26 = true then Pure.pure true else (fIsB "bool" v17 >>= fun x22 => vTru x22) >>= fun t25 => if t25 = true then Pure.pure true else oLt v17 (.int 0) >>= vBl) >>= fun t28 =>
  if t28 = true then
    (Pure.pure (some v17))
  else
    (Pure.pure none)
def l__law_is_writing_2 : (Val) → Res (Val) := fun z_ => on2 z_ (fun v42 v43 => (oMul v42 v43 >>= fun x48 => oAdd v43 (.int 1) >>= fun x49 => oMul x48 x49) >>= fun x50 => oFdiv x50 (.int 2))
def n__law_is_writing (a_lots_here a_number_here a_told : Val) : Res Val :=
  (((fIsB "tuple" a_told >>= fun x2 => vTru x2) >>= fun t3 => Pure.pure (!t3)) >>= fun t12 => if t12 = true then Pure.pure true else fLen [a_told] >>= fun x10 => fLen [a_lots_here] >>= fun x11 => oNe x10 x11 >>= vBl) >>= fun t13 =>
  if t13 = true then
    (Pure.pure (.bl false))
  else
    (((vIter a_told >>= fun xs15 => Mon.nx (lcM l__law_is_writing_1 xs15) >>= fun ys16 => vLst ys16) >>= fun x30 => vLst [] >>= fun x31 => oNe x30 x31 >>= vBl) >>= fun t32 =>
    if t32 = true then
      (Pure.pure (.bl false))
    else
      ((((vZip [a_lots_here, a_told] >>= fun xs40 => Mon.nx (mapM' l__law_is_writing_2 xs40) >>= fun ys41 => vLst ys41) >>= fun x33 => Pure.pure [x33]) >>= fun xs52 => fSum xs52) >>= fun x53 =>
      oEq x53 a_number_here))
theorem q__law_is_writing (a_lots_here a_number_here a_told : Val) : m__law_is_writing [a_lots_here, a_number_here, a_told] = n__law_is_writing a_lots_here a_number_here a_told := (rfl)
def n_triangles_give (a_lots a_number : Val) : Res Val :=
  m_check_lots [a_lots] >>= fun _ =>
  m_check_number [a_number] >>= fun _ =>
  m_do_give [a_lots, a_number]
theorem q_triangles_give (a_lots a_number : Val) : m_triangles_give [a_lots, a_number] = n_triangles_give a_lots a_number := (rfl)
def l__law_right_1 (v_some12 : Val) : (Val) → M (Option Val) := fun v20 => Mon.of (oNotInD v20 v_some12 >>= vBl) >>= fun t24 =>
  if t24 = true then
    (Pure.pure (some v20))
  else
    (Pure.pure none)
def l__law_right_2 (v_due38 : Val) : (Unit) → (Val) → M (Fl (Unit) Val) := fun st70 x71 => (((Mon.of (vTru v_due38) >>= fun t73 => Pure.pure (!t73)) >>= fun t76 => if t76 = true then Mon.of (oNotN x71 .non >>= vBl) else Pure.pure false) >>= fun t81 => if t81 = true then Pure.pure true else Mon.of (vTru v_due38) >>= fun t80 => if t80 = true then Mon.of (oIsN x71 .non >>= vBl) else Pure.pure false) >>= fun t82 =>
  if t82 = true then
    (Pure.pure (.rt (.bl false)))
  else
    (Pure.pure (.nx (() : Unit)))
def l__law_right_3 (a_pail : Val) (v_some12 : Val) (v_lots_here6 : Val) : (Unit) → (Val) → M (Fl (Unit) Val) := fun st26 x27 => (m__law_pull [a_pail, .int 60] >>= fun x34 => Mon.of (oAdd (.int 1) x34)) >>= fun v_number_here35 =>
  Mon.of (oInD v_number_here35 v_some12) >>= fun v_due38 =>
  (((((Mon.of (m_triangles_give [v_lots_here6, v_number_here35]) >>= fun x49 => ((Mon.of (chkN 0 2 [] [v_number_here35, v_lots_here6]) >>= fun _ => Mon.of (m_triangles_give [v_lots_here6, v_number_here35])) >>= fun x41 => Pure.pure [x41]) >>= fun xs50 => Pure.pure (x49 :: xs50)) >>= fun xs56 => Mon.of (vLst xs56)) >>= fun x39 => Pure.pure [x39]) >>= fun xs57 => Mon.of (fRepr xs57)) >>= fun x66 => ((Mon.of (vLst [v_due38, v_due38]) >>= fun x58 => Pure.pure [x58]) >>= fun xs65 => Mon.of (fRepr xs65)) >>= fun x67 => Mon.of (oNe x66 x67 >>= vBl)) >>= fun t68 =>
  if t68 = true then
    (Pure.pure (.rt (.bl false)))
  else
    ((((((Mon.of (m_triangle_writing [v_lots_here6, v_number_here35]) >>= fun x93 => ((((Mon.of (oRev v_lots_here6) >>= fun x88 => Pure.pure [x88]) >>= fun xs91 => Pure.pure (v_number_here35 :: xs91)) >>= fun zs92 => Mon.of (chkN 0 2 [] zs92) >>= fun _ => Mon.of (m_triangle_writing (pickL .non [1, 0] zs92))) >>= fun x84 => Pure.pure [x84]) >>= fun xs94 => Pure.pure (x93 :: xs94)) >>= fun xs100 => Mon.of (vLst xs100)) >>= fun x101 => Mon.of (vIter x101)) >>= fun xs102 => forM' (τ := Val) (l__law_right_2 v_due38) xs102 ()) >>= nxRt) >>= orRt (fun st103 => Mon.of (m_triangle_writing [v_lots_here6, v_number_here35]) >>= fun v_told109 => (Mon.of (vTru v_due38) >>= fun t120 => if t120 = true then (Mon.of (m__law_is_writing [v_lots_here6, v_number_here35, v_told109]) >>= fun x118 => Mon.of (vTru x118)) >>= fun t119 => Pure.pure (!t119) else Pure.pure false) >>= fun t121 => if t121 = true then Pure.pure (.rt (.bl false)) else Pure.pure (.nx (() : Unit))) (fun t => Fl.rt t))
def l__law_right_4 (a_pail : Val) : (Unit) → (Val) → M (Fl (Unit) Val) := fun st1 x2 => m__law_drawn_lots [a_pail] >>= fun v_lots_here6 =>
  Mon.of (m__law_sums [v_lots_here6, .int 60]) >>= fun v_some12 =>
  (Mon.of (vRange2 [.int 1, .int 61]) >>= fun xs18 => Mon.nx (lcM (l__law_right_1 v_some12) xs18) >>= fun ys19 => Mon.of (vLst ys19)) >>= fun v_lost25 =>
  ((Mon.of (vRange1 [.int 8]) >>= fun xs126 => forM' (τ := Val) (l__law_right_3 a_pail v_some12 v_lots_here6) xs126 ()) >>= nxRt) >>= orRt (fun st127 => ((Mon.of (vLst []) >>= fun x130 => Mon.of (oNe v_lost25 x130 >>= vBl)) >>= fun t133 => if t133 = true then ixM v_lost25 (.int 0) else Pure.pure .non) >>= fun v_least_here134 => ((Mon.of (m_least_triangle_missed [v_lots_here6]) >>= fun x147 => (((Mon.of (oRev v_lots_here6) >>= fun x144 => Pure.pure [x144]) >>= fun zs146 => Mon.of (chkN 0 1 [] zs146) >>= fun _ => Mon.of (m_least_triangle_missed (pickL .non [0] zs146))) >>= fun x140 => (Mon.of (m_triangles_all [v_lots_here6]) >>= fun x135 => Pure.pure [x135]) >>= fun xs141 => Pure.pure (x140 :: xs141)) >>= fun xs148 => Pure.pure (x147 :: xs148)) >>= fun xs152 => Mon.of (vLst xs152)) >>= fun v_told153 => ((((Mon.of (chkN 0 1 [] [v_lots_here6]) >>= fun _ => Mon.of (m_triangles_all [v_lots_here6])) >>= fun x154 => Pure.pure [x154]) >>= fun xs160 => Mon.of (vLst xs160)) >>= fun x162 => Mon.of (oAdd v_told153 x162)) >>= fun v_told163 => (Mon.of (fRepr [v_told163]) >>= fun x185 => ((((Mon.of (vLst [v_least_here134]) >>= fun x172 => Mon.of (oMul x172 (.int 2))) >>= fun x182 => ((((Mon.of (vLst []) >>= fun x178 => Mon.of (oEq v_lost25 x178)) >>= fun x174 => Pure.pure [x174]) >>= fun xs179 => Mon.of (vLst xs179)) >>= fun x180 => Mon.of (oMul x180 (.int 2))) >>= fun x183 => Mon.of (oAdd x182 x183)) >>= fun x167 => Pure.pure [x167]) >>= fun xs184 => Mon.of (fRepr xs184)) >>= fun x186 => Mon.of (oNe x185 x186 >>= vBl)) >>= fun t187 => if t187 = true then Pure.pure (.rt (.bl false)) else Pure.pure (.nx (() : Unit))) (fun t => Fl.rt t)
def n__law_right (a_pail : Val) : M Val :=
  ((Mon.of (vRange1 [.int 3]) >>= fun xs192 => forM' (τ := Val) (l__law_right_4 a_pail) xs192 ()) >>= nxRt) >>= orRt (fun st193 => Pure.pure (.bl true)) id
theorem q__law_right (a_pail : Val) : m__law_right [a_pail] = n__law_right a_pail := (rfl)
def n__law_quiet (a_pail : Val) : M Val :=
  Mon.nx (m__law_right [a_pail] >>= fun v_is_right4 => Pure.pure (v_is_right4 : Val)) >>= fun st5 =>
  Pure.pure st5
theorem q__law_quiet (a_pail : Val) : m__law_quiet [a_pail] = n__law_quiet a_pail := (rfl)
def l__law_pail_1 : (Val) → (Val) → M (Fl (Val) Val) := fun st19 x20 => ((((Mon.of (oMul st19 (.int 47057)) >>= fun x25 => Mon.of (oAdd x25 x20)) >>= fun x21 => Pure.pure [x21]) >>= fun xs27 => Mon.of (fInt xs27)) >>= fun x28 => Mon.of (oMod x28 (.int 2147483477))) >>= fun v_seed30 =>
  Pure.pure (.nx (v_seed30 : Val))
def n__law_pail (a_script a_turn : Val) : M Val :=
  ((Mon.of (fLen [a_script]) >>= fun x5 => Mon.of (oLt a_turn x5 >>= vBl)) >>= fun t12 => if t12 = true then ixM a_script a_turn else Mon.of (oMul (.int 31) a_turn) >>= fun x10 => Mon.of (oAdd x10 (.int 9))) >>= fun v_figure13 =>
  (Mon.of (oMul (.int 36007) a_turn) >>= fun x17 => Mon.of (oAdd (.int 122949823) x17)) >>= fun v_seed18 =>
  ((((Mon.of (vLst [v_figure13]) >>= fun x38 => (Mon.of (asInt (.int 6)) >>= fun h37 => Mon.of (oSl a_script none h37)) >>= fun x39 => Mon.of (oAdd x38 x39)) >>= fun x40 => Mon.of (vIter x40)) >>= fun xs41 => forM' (τ := Val) l__law_pail_1 xs41 v_seed18) >>= onlyNx) >>= fun st42 =>
  (((Mon.of (fAbs [v_figure13]) >>= fun x54 => Mon.of (oPow (.int 10) (.int 18)) >>= fun x55 => Mon.of (oGe x54 x55 >>= vBl)) >>= fun t59 => if t59 = true then Mon.of (fAbs [v_figure13]) else Pure.pure (.int 0)) >>= fun x47 => Pure.pure [x47, st42, .int 0]) >>= fun xs60 =>
  newC xs60
theorem q__law_pail (a_script a_turn : Val) : m__law_pail [a_script, a_turn] = n__law_pail a_script a_turn := (rfl)
def l_law_1 (a_script : Val) : (Val) → M (Val) := fun v21 => (m__law_pail [a_script, v21] >>= fun x23 => Pure.pure [x23]) >>= fun xs22 =>
  m__law_quiet xs22
def n_law (a_script : Val) : M Val :=
  (((((((((Mon.of (fLen [a_script]) >>= fun x9 => Pure.pure [x9, .int 4]) >>= fun xs14 => Mon.of (fMin xs14)) >>= fun x5 => Pure.pure [x5]) >>= fun xs16 => Pure.pure ((.int 2) :: xs16)) >>= fun xs17 => Mon.of (fMax xs17)) >>= fun x3 => Pure.pure [x3]) >>= fun xs18 => Mon.of (vRange1 xs18)) >>= fun xs19 => Mon.nx (mapM' (l_law_1 a_script) xs19) >>= fun ys20 => Mon.of (vLst ys20)) >>= fun x1 => Pure.pure [x1]) >>= fun xs30 =>
  Mon.of (fAll xs30)
theorem q_law (a_script : Val) : m_law [a_script] = n_law a_script := (rfl)
end K47

/-! k47: plain maths, part A: triangular sums -/
namespace K47
open PySem PySem.Spec PyProof.Rows L2 Tv

/-! ### Res -/
theorem rPure {α β : Type} (a : α) (f : α → Res β) : ((Pure.pure a : Res α) >>= f) = f a := rfl
theorem rOk {α β : Type} (a : α) (f : α → Res β) : ((Res.ok a : Res α) >>= f) = f a := rfl
theorem rOf {α : Type} (r : Res α) : (Mon.of r : Res α) = r := rfl
theorem rP {α : Type} (a : α) : (Pure.pure a : Res α) = .ok a := rfl

/-! ### sums of triangular numbers -/
def tr (k : Nat) : Nat := k * (k + 1) / 2
theorem tr_succ (k : Nat) : tr (k + 1) = tr k + (k + 1) := by
  unfold tr
  have : (k + 1) * (k + 1 + 1) = k * (k + 1) + 2 * (k + 1) := by rw [Nat.add_mul, Nat.mul_add]; omega
  rw [this]
  omega
theorem tr_ge (k : Nat) : k ≤ tr k := by
  induction k with
  | zero => exact Nat.zero_le _
  | succ k ih => rw [tr_succ]; omega
theorem tr_mono {j k : Nat} (h : j ≤ k) : tr j ≤ tr k := by
  induction h with
  | refl => exact Nat.le_refl _
  | step _ ih => rw [tr_succ]; omega
/-- n is a sum of triangular numbers, as often as L tells -/
inductive R : List Nat → Nat → Prop
  | nil : R [] 0
  | cons {a : Nat} {L : List Nat} {n : Nat} (k : Nat) (h : R L n) : R (a :: L) (n + a * tr k)
theorem R.nil0 {n : Nat} (h : R [] n) : n = 0 := by cases h; rfl
theorem R.split {a : Nat} {L : List Nat} {n : Nat} (h : R (a :: L) n) : ∃ m k, R L m ∧ n = m + a * tr k := by
  cases h with
  | cons k h => exact ⟨_, k, h, rfl⟩
theorem R.zero : ∀ L, R L 0
  | [] => .nil
  | a :: L => by
    have := R.cons (a := a) 0 (R.zero L)
    simpa [tr] using this
theorem R.perm {L L' : List Nat} (p : L.Perm L') : ∀ {n : Nat}, R L n → R L' n := by
  induction p with
  | nil => exact fun h => h
  | cons a _ ih =>
    intro n h
    obtain ⟨m, k, h1, e⟩ := h.split
    subst e
    exact .cons k (ih h1)
  | swap a b L =>
    intro n h
    obtain ⟨m, k, h1, e⟩ := h.split
    obtain ⟨m2, k2, h2, e2⟩ := h1.split
    subst e e2
    have := R.cons (a := a) k2 (R.cons (a := b) k h2)
    rw [show m2 + a * tr k2 + b * tr k = m2 + b * tr k + a * tr k2 from by omega]
    exact this
  | trans _ _ ih1 ih2 => exact fun h => ih2 (ih1 h)
/-- more lots give more -/
theorem R.more {L L' : List Nat} {n : Nat} (h : R L n) : R (L ++ L') n := by
  induction h with
  | nil => exact R.zero _
  | cons k _ ih => exact .cons k ih
theorem R.app {L L' : List Nat} : ∀ {n : Nat}, R (L ++ L') n → ∃ a b, R L a ∧ R L' b ∧ n = a + b := by
  induction L with
  | nil => exact fun {n} h => ⟨0, n, .nil, h, by omega⟩
  | cons a L ih =>
    intro n h
    obtain ⟨m, k, h1, e⟩ := h.split
    obtain ⟨x, y, hx, hy, e2⟩ := ih h1
    subst e e2
    exact ⟨_, y, .cons k hx, hy, by omega⟩
/-- what is below all of L is a sum without L, or nothing -/
theorem R.low {L : List Nat} {b : Nat} (hL : ∀ a ∈ L, b < a) : ∀ {n : Nat}, R L n → n ≤ b → n = 0 := by
  induction L with
  | nil => exact fun h _ => h.nil0
  | cons a L ih =>
    intro n h hn
    obtain ⟨m, k, h1, e⟩ := h.split
    have hm := ih (fun x hx => hL x (List.mem_cons_of_mem _ hx)) h1 (by omega)
    have ha := hL a List.mem_cons_self
    subst hm
    cases k with
    | zero => simpa [tr] using e
    | succ k =>
      have : 1 ≤ tr (k + 1) := by have := tr_ge (k + 1); omega
      have : a * 1 ≤ a * tr (k + 1) := Nat.mul_le_mul_left a this
      omega
/-- a test for short lists -/
def rB : List Nat → Nat → Bool
  | [], n => n == 0
  | a :: L, n => (List.range (n + 1)).any fun k => decide (a * tr k ≤ n) && rB L (n - a * tr k)
theorem rB_of : ∀ {L : List Nat} {n : Nat}, rB L n = true → R L n
  | [], n, h => by
    have : n = 0 := by simpa [rB] using h
    subst this
    exact .nil
  | a :: L, n, h => by
    unfold rB at h
    obtain ⟨k, _, h2⟩ := List.any_eq_true.mp h
    obtain ⟨h3, h4⟩ := Bool.and_eq_true_iff.mp h2
    have h3 := of_decide_eq_true h3
    have := R.cons (a := a) k (rB_of h4)
    rwa [Nat.sub_add_cancel h3] at this
theorem of_rB : ∀ {L : List Nat} {n : Nat}, (∀ a ∈ L, 0 < a) → R L n → rB L n = true
  | [], n, _, h => by rw [h.nil0]; rfl
  | a :: L, n, hp, h => by
    obtain ⟨m, k, h1, e⟩ := h.split
    subst e
    unfold rB
    have ha : 1 ≤ a := hp a List.mem_cons_self
    have hk : k ≤ a * tr k := Nat.le_trans (tr_ge k) (by have := Nat.mul_le_mul_right (tr k) ha; omega)
    refine List.any_eq_true.mpr ⟨k, List.mem_range.mpr (by omega), ?_⟩
    rw [Bool.and_eq_true_iff]
    refine ⟨decide_eq_true (by omega), ?_⟩
    rw [Nat.add_sub_cancel]
    exact of_rB (fun x hx => hp x (List.mem_cons_of_mem _ hx)) h1
end K47

/-! k47: plain maths, part B: the least number that is missed -/
namespace K47

/-- a quick test up to 60 -/
def rS : List Nat → Nat → Bool
  | [], n => n == 0
  | a :: L, n => (List.range 11).any fun k => decide (a * tr k ≤ n) && rS L (n - a * tr k)
theorem rS_of : ∀ {L : List Nat} {n : Nat}, rS L n = true → R L n
  | [], n, h => by
    have : n = 0 := by simpa [rS] using h
    subst this
    exact .nil
  | a :: L, n, h => by
    unfold rS at h
    obtain ⟨k, _, h2⟩ := List.any_eq_true.mp h
    obtain ⟨h3, h4⟩ := Bool.and_eq_true_iff.mp h2
    have h3 := of_decide_eq_true h3
    have := R.cons (a := a) k (rS_of h4)
    rwa [Nat.sub_add_cancel h3] at this
def all60 (L : List Nat) : Bool := (List.range 60).all fun n => rS L (n + 1)
theorem all60_of {L : List Nat} (h : all60 L = true) {n : Nat} (h1 : 1 ≤ n) (h2 : n ≤ 60) : R L n := by
  have := List.all_eq_true.mp h (n - 1) (List.mem_range.mpr (by omega))
  rw [show n - 1 + 1 = n from by omega] at this
  exact rS_of this
/-- the rest too great to matter -/
theorem not_of {P L : List Nat} {t : Nat} (hP : ∀ a ∈ P, 0 < a) (hb : rB P t = false) (hL : ∀ a ∈ L, t < a) : ¬ R (P ++ L) t := fun h => by
  obtain ⟨x, y, hx, hy, e⟩ := h.app
  have hy0 := hy.low hL (by omega)
  subst hy0
  have := of_rB hP hx
  rw [show x = t from by omega, hb] at this
  cases this
def Least (L : List Nat) : Prop := (∃ t ∈ [1, 2, 4, 5, 8], ¬ R L t ∧ ∀ n, 1 ≤ n → n < t → R L n) ∨ ∀ n, 1 ≤ n → n ≤ 60 → R L n
theorem Least.perm {L L' : List Nat} (p : L.Perm L') (h : Least L) : Least L' := by
  rcases h with ⟨t, ht, h1, h2⟩ | h
  · exact .inl ⟨t, ht, fun z => h1 (z.perm p.symm), fun n a b => (h2 n a b).perm p⟩
  · exact .inr fun n a b => (h n a b).perm p
theorem least_cut {P L : List Nat} (t : Nat) (ht : t ∈ [1, 2, 4, 5, 8]) (hP : ∀ a ∈ P, 0 < a) (hb : rB P t = false) (hL : ∀ a ∈ L, t < a) (hs : ∀ n, 1 ≤ n → n < t → rS P n = true) : Least (P ++ L) :=
  .inl ⟨t, ht, not_of hP hb hL, fun n a b => (rS_of (hs n a b)).more⟩
theorem least_all {P L : List Nat} (h : all60 P = true) : Least (P ++ L) := .inr fun n a b => (all60_of h a b).more
theorem small {t : Nat} {P : List Nat} (h : ((List.range t).all fun n => n == 0 || rS P n) = true) : ∀ n, 1 ≤ n → n < t → rS P n = true := fun n a b => by
  have := List.all_eq_true.mp h n (List.mem_range.mpr b)
  rcases Bool.or_eq_true_iff.mp this with z | z
  · have : n = 0 := by simpa using z
    omega
  · exact z
theorem split_mem {L : List Nat} {a : Nat} (h : a ∈ L) : ∃ L', L.Perm (a :: L') := ⟨L.erase a, List.perm_cons_erase h⟩
theorem least (L : List Nat) (hp : ∀ a ∈ L, 0 < a) : Least L := by
  by_cases h1 : 1 ∈ L
  · obtain ⟨L1, p1⟩ := split_mem h1
    have hp1 : ∀ a ∈ L1, 0 < a := fun a m => hp a (p1.mem_iff.mpr (List.mem_cons_of_mem _ m))
    refine Least.perm p1.symm ?_
    by_cases h11 : 1 ∈ L1
    · obtain ⟨L2, p2⟩ := split_mem h11
      have hp2 : ∀ a ∈ L2, 0 < a := fun a m => hp1 a (p2.mem_iff.mpr (List.mem_cons_of_mem _ m))
      refine Least.perm (p2.cons 1).symm ?_
      by_cases hc : ∃ c ∈ L2, c ≤ 5
      · obtain ⟨c, mc, lc⟩ := hc
        have pc := hp2 c mc
        obtain ⟨L3, p3⟩ := split_mem mc
        have hp3 : ∀ a ∈ L3, 0 < a := fun a m => hp2 a (p3.mem_iff.mpr (List.mem_cons_of_mem _ m))
        refine Least.perm ((p3.cons 1).cons 1).symm ?_
        have : c = 1 ∨ c = 2 ∨ c = 3 ∨ c = 4 ∨ c = 5 := by omega
        rcases this with e | e | e | e | e
        · subst e; exact least_all (P := [1, 1, 1]) (by decide +kernel)
        · subst e; exact least_all (P := [1, 1, 2]) (by decide +kernel)
        · subst e
          by_cases hd : ∃ d ∈ L3, d ≤ 8
          · obtain ⟨d, md, ld⟩ := hd
            have pd := hp3 d md
            obtain ⟨L4, p4⟩ := split_mem md
            refine Least.perm (((p4.cons 3).cons 1).cons 1).symm ?_
            have : d = 1 ∨ d = 2 ∨ d = 3 ∨ d = 4 ∨ d = 5 ∨ d = 6 ∨ d = 7 ∨ d = 8 := by omega
            rcases this with e | e | e | e | e | e | e | e
            · subst e; exact least_all (P := [1, 1, 3, 1]) (by decide +kernel)
            · subst e; exact least_all (P := [1, 1, 3, 2]) (by decide +kernel)
            · subst e; exact least_all (P := [1, 1, 3, 3]) (by decide +kernel)
            · subst e; exact least_all (P := [1, 1, 3, 4]) (by decide +kernel)
            · subst e; exact least_all (P := [1, 1, 3, 5]) (by decide +kernel)
            · subst e; exact least_all (P := [1, 1, 3, 6]) (by decide +kernel)
            · subst e; exact least_all (P := [1, 1, 3, 7]) (by decide +kernel)
            · subst e; exact least_all (P := [1, 1, 3, 8]) (by decide +kernel)
          · exact least_cut (P := [1, 1, 3]) 8 (by decide) (by decide) (by decide +kernel) (fun a m => Nat.lt_of_not_le fun z => hd ⟨a, m, z⟩) (small (by decide +kernel))
        · subst e; exact least_all (P := [1, 1, 4]) (by decide +kernel)
        · subst e; exact least_all (P := [1, 1, 5]) (by decide +kernel)
      · exact least_cut (P := [1, 1]) 5 (by decide) (by decide) (by decide +kernel) (fun a m => Nat.lt_of_not_le fun z => hc ⟨a, m, z⟩) (small (by decide +kernel))
    · by_cases h2 : 2 ∈ L1
      · obtain ⟨L2, p2⟩ := split_mem h2
        have hp2 : ∀ a ∈ L2, 0 < a := fun a m => hp1 a (p2.mem_iff.mpr (List.mem_cons_of_mem _ m))
        refine Least.perm (p2.cons 1).symm ?_
        by_cases hc : ∃ c ∈ L2, c ≤ 4
        · obtain ⟨c, mc, lc⟩ := hc
          have pc := hp2 c mc
          have c1 : c ≠ 1 := fun e => h11 (p2.mem_iff.mpr (List.mem_cons_of_mem _ (e ▸ mc)))
          obtain ⟨L3, p3⟩ := split_mem mc
          refine Least.perm ((p3.cons 2).cons 1).symm ?_
          have : c = 2 ∨ c = 3 ∨ c = 4 := by omega
          rcases this with e | e | e
          · subst e; exact least_all (P := [1, 2, 2]) (by decide +kernel)
          · subst e; exact least_all (P := [1, 2, 3]) (by decide +kernel)
          · subst e; exact least_all (P := [1, 2, 4]) (by decide +kernel)
        · exact least_cut (P := [1, 2]) 4 (by decide) (by decide) (by decide +kernel) (fun a m => Nat.lt_of_not_le fun z => hc ⟨a, m, z⟩) (small (by decide +kernel))
      · refine least_cut (P := [1]) 2 (by decide) (by decide) (by decide +kernel) (fun a m => ?_) (small (by decide +kernel))
        have := hp1 a m
        have a1 : a ≠ 1 := fun e => h11 (e ▸ m)
        have a2 : a ≠ 2 := fun e => h2 (e ▸ m)
        omega
  · refine least_cut (P := []) 1 (by decide) (fun a m => nomatch m) (by decide +kernel) (fun a m => ?_) (small (by decide +kernel))
    have := hp a m
    have a1 : a ≠ 1 := fun e => h1 (e ▸ m)
    omega
end K47

/-! k47: the mirrors, part C: triangles_for -/
namespace K47
open PySem PySem.Spec PyProof.Rows L2 Tv

theorem cut_ex (f : Nat → Nat) (n : Nat) : ∀ m, (∀ k, k < m → f k ≤ n) ∨ ∃ K, K < m ∧ (∀ k, k < K → f k ≤ n) ∧ n < f K
  | 0 => .inl fun k h => absurd h (Nat.not_lt_zero _)
  | m + 1 => by
    rcases cut_ex f n m with h | ⟨K, h1, h2⟩
    · by_cases h3 : f m ≤ n
      · refine .inl fun k hk => ?_
        by_cases e : k = m
        · subst e; exact h3
        · exact h k (by omega)
      · exact .inr ⟨m, Nat.lt_succ_self _, h, by omega⟩
    · exact .inr ⟨K, by omega, h2⟩
theorem lot_ex {lot : Nat} (hl : 1 ≤ lot) (n : Nat) : ∃ K, K ≤ n + 1 ∧ (∀ k, k < K → lot * tr k ≤ n) ∧ n < lot * tr K := by
  rcases cut_ex (fun k => lot * tr k) n (n + 2) with h | ⟨K, h1, h2⟩
  · have h3 := h (n + 1) (by omega)
    have h4 := tr_ge (n + 1)
    have h5 := Nat.mul_le_mul_right (tr (n + 1)) hl
    omega
  · exact ⟨K, by omega, h2⟩
theorem fdiv2 (k : Nat) : ((k : Int) * ((k : Int) + 1)).fdiv 2 = (tr k : Nat) := by
  have : ((k : Int) * ((k : Int) + 1)) = ((k * (k + 1) : Nat) : Int) := by push_cast; rfl
  rw [this, Int.fdiv_eq_ediv_of_nonneg _ (by decide)]
  rfl
theorem oAdd_i (i j : Int) : oAdd (.int i) (.int j) = .ok (.int (i + j)) := rfl
theorem small_nat {k : Nat} (h : k < 18446744073709551616) : smallB (k : Int) = true := by
  unfold smallB
  rw [Bool.and_eq_true_iff]
  exact ⟨decide_eq_true (by omega), decide_eq_true (by omega)⟩
theorem oMul_l {i : Int} (j : Int) (h : smallB i = true) : oMul (.int i) (.int j) = .ok (.int (i * j)) := by
  show (if (smallB i || smallB j) = true then _ else _) = _
  rw [h]; rfl
theorem oFdiv_2 (i : Int) : oFdiv (.int i) (.int 2) = .ok (.int (i.fdiv 2)) := rfl
def pr (lot k : Nat) : Val := .tup [.int k, .int (lot * tr k : Nat)]
/-- lot * (k * (k + 1) // 2) -/
theorem tri_val {lot k : Nat} (hl : lot < 18446744073709551616) (hk : k < 18446744073709551616) :
    (oAdd (.int k) (.int 1) >>= fun x => oMul (.int k) x >>= fun x => oFdiv x (.int 2) >>= fun x => oMul (.int lot) x) = .ok (.int (lot * tr k : Nat)) := by
  rw [oAdd_i, rOk, oMul_l _ (small_nat hk), rOk, oFdiv_2, rOk, oMul_l _ (small_nat hl), fdiv2, Int.natCast_mul]
/-! rewriting with proofs, so that the kernel unfolds nothing -/
theorem qPure {α β : Type} (a : α) (f : α → Res β) : ((Pure.pure a : Res α) >>= f) = f a := (rfl)
theorem qOk {α β : Type} (a : α) (f : α → Res β) : ((Res.ok a : Res α) >>= f) = f a := (rfl)
theorem qOf {α : Type} (r : Res α) : (Mon.of r : Res α) = r := (rfl)
theorem qP {α : Type} (a : α) : (Pure.pure a : Res α) = .ok a := (rfl)
theorem qAdd (i j : Int) : oAdd (.int i) (.int j) = .ok (.int (i + j)) := (rfl)
theorem qSub (i j : Int) : oSub (.int i) (.int j) = .ok (.int (i - j)) := (rfl)
theorem qF2 (i : Int) : oFdiv (.int i) (.int 2) = .ok (.int (i.fdiv 2)) := (rfl)
theorem qLe (i j : Int) : oLe (.int i) (.int j) = .ok (.bl (decide (i ≤ j))) := (rfl)
theorem qBl (b : Bool) : vBl (.bl b) = .ok b := (rfl)
/-- the test of triangles_for's while -/
theorem tri_tst {lot k number : Nat} (hl : lot < 18446744073709551616) (hk : k < 18446744073709551616) :
    (((Pure.pure (Val.int lot)) >>= fun x315 => (((Pure.pure (Val.int k)) >>= fun x311 => ((Pure.pure (Val.int k)) >>= fun x309 => (Pure.pure (.int 1)) >>= fun x310 => Mon.of (oAdd x309 x310)) >>= fun x312 => Mon.of (oMul x311 x312)) >>= fun x313 => (Pure.pure (.int 2)) >>= fun x314 => Mon.of (oFdiv x313 x314)) >>= fun x316 => Mon.of (oMul x315 x316)) >>= fun x317 => (Pure.pure (Val.int number)) >>= fun x318 => Mon.of (oLe x317 x318 >>= vBl) : Res Bool) = .ok (decide (lot * tr k ≤ number)) := by
  simp only [qPure, qOf, qAdd, qOk, oMul_l _ (small_nat hk), qF2, oMul_l _ (small_nat hl), fdiv2, qLe, qBl]
  rw [← Int.natCast_mul, decide_eq_decide.mpr Int.ofNat_le]
theorem cI_lt {a b : Nat} : decide ((a : Int) ≤ (b : Int)) = decide (a ≤ b) := decide_eq_decide.mpr Int.ofNat_le
theorem qIp (f : Int → Int → Int) (i j : Int) : ipOf f (.int i) (.int j) = .ok (.int (f i j)) := (rfl)
theorem qTup2 (x y : Val) : vTup [x, y] = .ok (.tup [x, y]) := (rfl)
theorem roomL_ok {xs : List Val} (h : xs.length < sizeLine) : roomL xs = .ok () := by
  unfold roomL
  rw [if_pos h]
theorem size_big : 10000 ≤ sizeLine := by decide
theorem range_snoc (f : Nat → Val) (k : Nat) : (List.range k).map f ++ [f k] = (List.range (k + 1)).map f := by
  rw [List.range_succ, List.map_append]; rfl
def triT (lot number : Nat) : List Val × Val → Res Bool := fun st308 => (((Pure.pure (Val.int lot)) >>= fun x315 => (((Pure.pure st308.2) >>= fun x311 => ((Pure.pure st308.2) >>= fun x309 => (Pure.pure (.int 1)) >>= fun x310 => Mon.of (oAdd x309 x310)) >>= fun x312 => Mon.of (oMul x311 x312)) >>= fun x313 => (Pure.pure (.int 2)) >>= fun x314 => Mon.of (oFdiv x313 x314)) >>= fun x316 => Mon.of (oMul x315 x316)) >>= fun x317 => (Pure.pure (Val.int number)) >>= fun x318 => Mon.of (oLe x317 x318 >>= vBl))
def triS (lot : Nat) : List Val × Val → Res (Fl (List Val × Val) Val) := fun st308 => ((((Pure.pure st308.2) >>= fun x329 => (((Pure.pure (Val.int lot)) >>= fun x327 => (((Pure.pure st308.2) >>= fun x323 => ((Pure.pure st308.2) >>= fun x321 => (Pure.pure (.int 1)) >>= fun x322 => Mon.of (oAdd x321 x322)) >>= fun x324 => Mon.of (oMul x323 x324)) >>= fun x325 => (Pure.pure (.int 2)) >>= fun x326 => Mon.of (oFdiv x325 x326)) >>= fun x328 => Mon.of (oMul x327 x328)) >>= fun x319 => (Pure.pure []) >>= fun xs320 => Pure.pure (x319 :: xs320)) >>= fun xs330 => Pure.pure (x329 :: xs330)) >>= fun xs331 => Mon.of (vTup xs331)) >>= fun x332 => Mon.of (roomL st308.1) >>= fun _ => ((Pure.pure (.int 1)) >>= fun x333 => Mon.of (ipOf (fun i j => i + j) st308.2 x333) >>= fun v_k334 => (Pure.pure (.nx (((st308.1 ++ [x332]), v_k334) : List Val × Val)))))
theorem triS_eq {lot k : Nat} {acc : List Val} (hl : lot < 18446744073709551616) (hk : k < 18446744073709551616) (ha : acc.length < sizeLine) :
    triS lot (acc, .int k) = .ok (.nx (acc ++ [pr lot k], .int (k + 1 : Nat))) := by
  unfold triS
  simp only [qPure, qOf, qAdd, qOk, oMul_l _ (small_nat hk), qF2, oMul_l _ (small_nat hl), fdiv2, qTup2, roomL_ok ha, qIp, qP]
  rw [← Int.natCast_mul]
  rfl
theorem tri_loop {lot number K : Nat} (hl : lot < 18446744073709551616) (hK : K ≤ 1001) (h1 : ∀ k, k < K → lot * tr k ≤ number) (h2 : number < lot * tr K) :
    ∀ d k fuel, k + d = K → d < fuel → whileM' (τ := Val) (triT lot number) (triS lot) fuel ((List.range k).map (pr lot), .int k) = .ok (.nx ((List.range K).map (pr lot), .int K))
  | 0, k, fuel + 1, e, _ => by
    have e : k = K := by omega
    subst e
    unfold whileM'
    have t : triT lot number ((List.range k).map (pr lot), .int k) = _ := tri_tst (number := number) hl (by omega : k < 18446744073709551616)
    rw [t, decide_eq_false (by omega)]
    rfl
  | d + 1, k, fuel + 1, e, hf => by
    unfold whileM'
    have t : triT lot number ((List.range k).map (pr lot), .int k) = _ := tri_tst (number := number) hl (by omega : k < 18446744073709551616)
    have hlen : ((List.range k).map (pr lot)).length < sizeLine := by
      have := size_big
      rw [List.length_map, List.length_range]
      omega
    rw [t, decide_eq_true (h1 k (by omega)), qOk, if_pos rfl, triS_eq hl (by omega) hlen, qOk, range_snoc]
    exact tri_loop hl hK h1 h2 d (k + 1) fuel (by omega) (by omega)
  | d, k, 0, _, hf => absurd hf (Nat.not_lt_zero _)
theorem triangles_for_eq {lot number : Nat} (hl : 1 ≤ lot) (hl2 : lot < 18446744073709551616) (hn : number ≤ 1000) :
    ∃ K, K ≤ number + 1 ∧ (∀ k, k < K → lot * tr k ≤ number) ∧ number < lot * tr K ∧ m_triangles_for [.int lot, .int number] = .ok (.lst ((List.range K).map (pr lot))) := by
  obtain ⟨K, h0, h1, h2⟩ := lot_ex hl number
  refine ⟨K, h0, h1, h2, ?_⟩
  have h := tri_loop hl2 (by omega) h1 h2 K 0 5000 (by omega) (by omega)
  have h' : whileM' (τ := Val) (triT lot number) (triS lot) 5000 ([], .int 0) = .ok (.nx ((List.range K).map (pr lot), .int K)) := by
    rw [show (([] : List Val), Val.int 0) = ((List.range 0).map (pr lot), Val.int ((0 : Nat) : Int)) from rfl]
    exact h
  rw [m_triangles_for, qPure, qPure]
  unfold triT triS at h'
  rw [h', qOk]
  rfl
end K47

/-! k47: the mirrors, part E: dicts of ways -/
namespace K47
open PySem PySem.Spec PyProof.Rows L2 Tv

/-- what a writing sums to -/
def wr : List Nat → List Nat → Nat
  | a :: L, k :: ks => a * tr k + wr L ks
  | _, _ => 0
theorem wr_R : ∀ {L ks : List Nat}, ks.length = L.length → R L (wr L ks)
  | [], [], _ => .nil
  | a :: L, k :: ks, h => by
    have := R.cons (a := a) k (wr_R (L := L) (ks := ks) (Nat.succ.inj h))
    rw [Nat.add_comm] at this
    exact this
theorem R_wr : ∀ {L : List Nat} {n : Nat}, R L n → ∃ ks, ks.length = L.length ∧ wr L ks = n
  | [], n, h => ⟨[], rfl, h.nil0.symm⟩
  | a :: L, n, h => by
    obtain ⟨m, k, h1, e⟩ := h.split
    obtain ⟨ks, l, e2⟩ := R_wr h1
    refine ⟨k :: ks, congrArg (· + 1) l, ?_⟩
    show a * tr k + wr L ks = n
    omega
theorem wr_snoc : ∀ {L ks : List Nat} (a k : Nat), ks.length = L.length → wr (L ++ [a]) (ks ++ [k]) = wr L ks + a * tr k
  | [], [], a, k, _ => by show a * tr k + 0 = 0 + a * tr k; omega
  | b :: L, j :: ks, a, k, h => by
    show b * tr j + wr (L ++ [a]) (ks ++ [k]) = b * tr j + wr L ks + a * tr k
    rw [wr_snoc a k (Nat.succ.inj h)]
    omega
def row (ks : List Nat) : Val := .tup (ks.map fun k : Nat => .int k)
abbrev Dk := List (Key × Val)
/-- the keys of a dict of ways -/
structure Wy (P : List Nat) (n : Nat) (D : Dk) : Prop where
  each : ∀ kv ∈ D, ∃ v ks, kv = (.inl (v : Nat), row ks) ∧ v ≤ n ∧ ks.length = P.length ∧ wr P ks = v
  nd : (D.map (·.1)).Nodup
def hs (D : Dk) (u : Nat) : Prop := ∃ x, ((Sum.inl (u : Int) : Key), x) ∈ D
theorem nd_len : ∀ (m : Nat) (xs : List Nat), xs.Nodup → (∀ x ∈ xs, x < m) → xs.length ≤ m
  | 0, xs, _, h => by
    cases xs with
    | nil => exact Nat.le_refl _
    | cons x _ => exact absurd (h x List.mem_cons_self) (Nat.not_lt_zero _)
  | m + 1, xs, nd, h => by
    have h1 := nd_len m (xs.erase m) (nd.erase m) fun x hx => by
      have h2 := h x (List.mem_of_mem_erase hx)
      have h3 : x ≠ m := fun e => by subst e; exact nd.not_mem_erase hx
      omega
    have h4 := List.length_erase (a := m) (l := xs)
    split at h4 <;> omega
theorem Wy.len {P : List Nat} {n : Nat} {D : Dk} (h : Wy P n D) : D.length ≤ n + 1 := by
  have e : ∀ D : Dk, (∀ kv ∈ D, ∃ v ks, kv = (.inl (v : Nat), row ks) ∧ v ≤ n ∧ ks.length = P.length ∧ wr P ks = v) → (D.map (·.1)).Nodup → ∃ xs : List Nat, D.map (·.1) = xs.map (fun x : Nat => (Sum.inl (x : Int) : Key)) ∧ ∀ x ∈ xs, x ≤ n := by
    intro D
    induction D with
    | nil => exact fun _ _ => ⟨[], rfl, fun x h => nomatch h⟩
    | cons kv D ih =>
      intro h1 h2
      obtain ⟨xs, e, l⟩ := ih (fun kv h => h1 kv (List.mem_cons_of_mem _ h)) (List.nodup_cons.mp h2).2
      obtain ⟨v, ks, e1, l1, _⟩ := h1 kv List.mem_cons_self
      subst e1
      refine ⟨v :: xs, by rw [List.map_cons, List.map_cons, e], fun x hx => ?_⟩
      rcases List.mem_cons.mp hx with e | h
      · omega
      · exact l x h
  obtain ⟨xs, e, l⟩ := e D h.each h.nd
  have nd : xs.Nodup := by
    have := h.nd
    rw [e] at this
    exact (List.pairwise_map.mp this).imp fun h e => h (by rw [e])
  have := nd_len (n + 1) xs nd fun x hx => Nat.lt_succ_of_le (l x hx)
  have e2 := congrArg List.length e
  rw [List.length_map, List.length_map] at e2
  omega
theorem valD_some {D : Dk} {j : Key} : (valD D j).isSome = true ↔ ∃ x, (j, x) ∈ D := by
  unfold valD
  rw [Option.isSome_map, List.find?_isSome]
  constructor
  · rintro ⟨⟨a, x⟩, h1, h2⟩
    have h2 : a = j := of_decide_eq_true h2
    exact ⟨x, h2 ▸ h1⟩
  · rintro ⟨x, h⟩
    exact ⟨_, h, decide_eq_true rfl⟩
theorem hasD_iff {D : Dk} {j : Key} : hasD D j = true ↔ ∃ x, (j, x) ∈ D := by
  unfold hasD
  rw [List.any_eq_true]
  constructor
  · rintro ⟨⟨a, x⟩, h1, h2⟩
    have h2 : a = j := of_decide_eq_true h2
    exact ⟨x, h2 ▸ h1⟩
  · rintro ⟨x, h⟩
    exact ⟨_, h, decide_eq_true rfl⟩
theorem setdD_or (D : Dk) (j : Key) (x : Val) : (setdD D j x = D ∧ ∃ y, (j, y) ∈ D) ∨ (setdD D j x = D ++ [(j, x)] ∧ ∀ y, (j, y) ∉ D) := by
  unfold setdD
  by_cases h : (valD D j).isSome = true
  · rw [if_pos h]
    exact .inl ⟨rfl, valD_some.mp h⟩
  · rw [if_neg h]
    have h2 : ∀ y, (j, y) ∉ D := fun y m => h (valD_some.mpr ⟨y, m⟩)
    have h3 : ¬ hasD D j = true := fun z => by
      obtain ⟨y, m⟩ := hasD_iff.mp z
      exact h2 y m
    unfold putD
    rw [if_neg h3]
    exact .inr ⟨rfl, h2⟩
theorem Wy.setd {P : List Nat} {n v : Nat} {D : Dk} {ks : List Nat} (h : Wy P n D) (hv : v ≤ n) (hk : ks.length = P.length) (hw : wr P ks = v) :
    Wy P n (setdD D (.inl (v : Int)) (row ks)) ∧ ∀ u, hs (setdD D (.inl (v : Int)) (row ks)) u ↔ hs D u ∨ u = v := by
  rcases setdD_or D (.inl (v : Int)) (row ks) with ⟨e, y, m⟩ | ⟨e, m⟩
  · rw [e]
    refine ⟨h, fun u => ⟨.inl, fun q => ?_⟩⟩
    rcases q with q | q
    · exact q
    · subst q; exact ⟨y, m⟩
  · rw [e]
    refine ⟨⟨fun kv hm => ?_, ?_⟩, fun u => ⟨fun ⟨x, hx⟩ => ?_, fun q => ?_⟩⟩
    · rcases List.mem_append.mp hm with hm | hm
      · exact h.each kv hm
      · exact ⟨v, ks, List.mem_singleton.mp hm, hv, hk, hw⟩
    · rw [List.map_append, List.nodup_append]
      refine ⟨h.nd, List.nodup_cons.mpr ⟨List.not_mem_nil, List.nodup_nil⟩, fun a ha b hb e2 => ?_⟩
      have hb := List.mem_singleton.mp hb
      obtain ⟨⟨k, y⟩, h1, h2⟩ := List.mem_map.mp ha
      subst e2
      have h2 : k = a := h2
      subst h2 hb
      exact m y h1
    · rcases List.mem_append.mp hx with hx | hx
      · exact .inl ⟨x, hx⟩
      · have := List.mem_singleton.mp hx
        injection this with h1 h2
        injection h1 with h1
        exact .inr (Int.ofNat.inj h1)
    · rcases q with ⟨x, hx⟩ | q
      · exact ⟨x, List.mem_append.mpr (.inl hx)⟩
      · subst q; exact ⟨_, List.mem_append.mpr (.inr List.mem_cons_self)⟩
end K47

/-! k47: the mirrors, part F: ways_to -/
namespace K47
open PySem PySem.Spec PyProof.Rows L2 Tv

/-- a loop that goes on, with what holds after each turn -/
theorem for_ok {ρ τ : Type} {step : ρ → Val → Res (Fl ρ τ)} (P : List Val → ρ → Prop) : ∀ (items done : List Val) (st : ρ),
    (∀ d x r st, done ++ items = d ++ x :: r → P d st → ∃ st', step st x = .ok (.nx st') ∧ P (d ++ [x]) st') → P done st →
    ∃ st', forM' step items st = .ok (.nx st') ∧ P (done ++ items) st'
  | [], done, st, _, p => ⟨st, rfl, by rw [List.append_nil]; exact p⟩
  | x :: xs, done, st, h, p => by
    obtain ⟨st1, e1, p1⟩ := h done x xs st rfl p
    obtain ⟨st2, e2, p2⟩ := for_ok P xs (done ++ [x]) st1 (fun d y r st e q => h d y r st (by rw [← e, List.append_assoc]; rfl) q) p1
    refine ⟨st2, ?_, by rw [List.append_assoc] at p2; exact p2⟩
    show (step st x >>= _) = _
    rw [e1]
    exact e2
def stI (v : Val) (rw' : Val) : Dk → Val → Res (Fl Dk Val) := fun st347 x348 => on2 x348 fun v_k349 v_more350 => (((Pure.pure v) >>= fun x351 => (Pure.pure v_more350) >>= fun x352 => Mon.of (oAdd x351 x352)) >>= fun x359 => (((Pure.pure rw') >>= fun x355 => Mon.of (vSeq x355) >>= fun xs357 => ((Pure.pure v_k349) >>= fun x353 => (Pure.pure []) >>= fun xs354 => Pure.pure (x353 :: xs354)) >>= fun xs356 => Pure.pure (xs357 ++ xs356)) >>= fun xs358 => Mon.of (vTup xs358)) >>= fun x360 => Mon.of (keyR st347 x359) >>= fun j361 => (Pure.pure (.nx ((setdD st347 j361 x360) : List (Key × Val)))))
theorem vTup_ok {xs : List Val} (h : xs.length ≤ sizeLine) : vTup xs = .ok (.tup xs) := by
  unfold vTup
  rw [if_pos h]
theorem keyR_ok {D : Dk} {i : Int} (h : D.length < sizeLine) : keyR D (.int i) = .ok (.inl i) := by
  show (if D.length < sizeLine then _ else _) = _
  rw [if_pos h]
theorem qSeq (ks : List Nat) : vSeq (row ks) = .ok (ks.map fun k : Nat => .int k) := (rfl)
theorem row_snoc (ks : List Nat) (k : Nat) : row (ks ++ [k]) = .tup ((ks.map fun k : Nat => Val.int k) ++ [.int k]) := by
  unfold row
  rw [List.map_append]; rfl
theorem q2 {α : Type} (a b : Val) (f : Val → Val → Res α) : on2 (.tup [a, b]) f = f a b := (rfl)
theorem stI_eq {v lot k : Nat} {ks : List Nat} {D : Dk} (h1 : ks.length ≤ 1000) (h2 : D.length < sizeLine) :
    stI (.int v) (row ks) D (pr lot k) = .ok (.nx (setdD D (.inl ((v + lot * tr k : Nat) : Int)) (row (ks ++ [k])))) := by
  have hl : ((ks.map fun k : Nat => Val.int k) ++ [Val.int k]).length ≤ sizeLine := by
    have := size_big
    rw [List.length_append, List.length_map]
    show ks.length + 1 ≤ _
    omega
  unfold stI pr
  simp only [q2, qPure, qOf, qAdd, qOk, qSeq, vTup_ok hl, keyR_ok h2, qP]
  rw [row_snoc, Int.natCast_add]
/-- one value of the old dict, all k -/
theorem in_loop {P : List Nat} {lot n v K : Nat} {ks : List Nat} {D : Dk} (hn : n ≤ 1000) (hP : P.length ≤ 1000) (h : Wy (P ++ [lot]) n D) (hk : ks.length = P.length) (hw : wr P ks = v) (hK : ∀ k, k < K → v + lot * tr k ≤ n) :
    ∃ D', forM' (stI (.int v) (row ks)) ((List.range K).map (pr lot)) D = .ok (.nx D') ∧ Wy (P ++ [lot]) n D' ∧ ∀ u, hs D' u ↔ hs D u ∨ ∃ k, k < K ∧ u = v + lot * tr k := by
  have key := for_ok (step := stI (.int v) (row ks)) (fun d D' => Wy (P ++ [lot]) n D' ∧ ∀ u, hs D' u ↔ hs D u ∨ ∃ k, k < d.length ∧ u = v + lot * tr k) ((List.range K).map (pr lot)) [] D ?_ ⟨h, fun u => ⟨.inl, fun q => ?_⟩⟩
  · obtain ⟨D', e, w, q⟩ := key
    refine ⟨D', e, w, fun u => ?_⟩
    have := q u
    rwa [List.nil_append, List.length_map, List.length_range] at this
  · intro d x r st e ⟨w, q⟩
    rw [List.nil_append] at e
    have hlen : d.length < K := by
      have := congrArg List.length e
      rw [List.length_map, List.length_range, List.length_append, List.length_cons] at this
      omega
    have hx : x = pr lot d.length := by
      have h1 : (d ++ x :: r)[d.length]? = some x := by
        rw [List.getElem?_append_right (Nat.le_refl _), Nat.sub_self]; rfl
      rw [← e, List.getElem?_map, List.getElem?_range hlen] at h1
      injection h1 with h1
      exact h1.symm
    subst hx
    have hD : st.length < sizeLine := by
      have := w.len
      have := size_big
      omega
    have hw2 : wr (P ++ [lot]) (ks ++ [d.length]) = v + lot * tr d.length := by rw [wr_snoc _ _ hk, hw]
    have hk2 : (ks ++ [d.length]).length = (P ++ [lot]).length := by rw [List.length_append, List.length_append, hk]; rfl
    obtain ⟨w2, q2⟩ := w.setd (hK _ hlen) hk2 hw2
    refine ⟨_, stI_eq (by omega) hD, w2, fun u => ?_⟩
    rw [q2 u, q u, List.length_append]
    constructor
    · rintro ((z | ⟨k, l, e⟩) | z)
      · exact .inl z
      · exact .inr ⟨k, Nat.lt_succ_of_lt l, e⟩
      · exact .inr ⟨d.length, Nat.lt_succ_self _, z⟩
    · rintro (z | ⟨k, l, e⟩)
      · exact .inl (.inl z)
      · by_cases c : k = d.length
        · subst c; exact .inr e
        · have l : k < d.length + 1 := l
          exact .inl (.inr ⟨k, by omega, e⟩)
  · rcases q with q | ⟨k, l, _⟩
    · exact q
    · exact absurd l (Nat.not_lt_zero _)
def stM (n lot : Val) : Dk → Val → Res (Fl Dk Val) := fun st343 x344 => on2 x344 fun v_value345 v_row346 => ((((((Pure.pure lot) >>= fun x367 => (((Pure.pure n) >>= fun x365 => (Pure.pure v_value345) >>= fun x366 => Mon.of (oSub x365 x366)) >>= fun x363 => (Pure.pure []) >>= fun xs364 => Pure.pure (x363 :: xs364)) >>= fun xs368 => Pure.pure (x367 :: xs368)) >>= fun xs362 => m_triangles_for xs362) >>= fun x369 => Mon.of (vIter x369)) >>= fun xs370 => forM' (τ := Val) (stI v_value345 v_row346) xs370 st343) >>= onlyNx >>= fun st371 => (Pure.pure (.nx (st371 : List (Key × Val)))))
theorem qIt (xs : List Val) : vIter (.lst xs) = .ok xs := (rfl)
theorem qOnly {ρ τ : Type} (st : ρ) : (onlyNx (.nx st : Fl ρ τ) : Res ρ) = .ok st := (rfl)
theorem stM_eq {P : List Nat} {lot n v : Nat} {ks : List Nat} {D : Dk} (hl : 1 ≤ lot) (hl2 : lot < 18446744073709551616) (hn : n ≤ 1000) (hP : P.length ≤ 1000) (h : Wy (P ++ [lot]) n D) (hk : ks.length = P.length) (hw : wr P ks = v) (hv : v ≤ n) :
    ∃ D', stM (.int n) (.int lot) D (.tup [.int v, row ks]) = .ok (.nx D') ∧ Wy (P ++ [lot]) n D' ∧ ∀ u, hs D' u ↔ hs D u ∨ ∃ k, u = v + lot * tr k ∧ u ≤ n := by
  obtain ⟨K, _, h1, h2, e⟩ := triangles_for_eq (number := n - v) hl hl2 (by omega)
  obtain ⟨D', e2, w, q⟩ := in_loop hn hP h hk hw (K := K) fun k hkK => by have := h1 k hkK; omega
  refine ⟨D', ?_, w, fun u => ?_⟩
  · have hs : (n : Int) - (v : Int) = ((n - v : Nat) : Int) := (Int.ofNat_sub hv).symm
    unfold stM
    simp only [q2, qPure, qOf, qSub, qOk, hs, qP, e, qIt, e2, qOnly]
  · rw [q u]
    constructor
    · rintro (z | ⟨k, l, e⟩)
      · exact .inl z
      · have := h1 k l
        exact .inr ⟨k, e, by omega⟩
    · rintro (z | ⟨k, e, l⟩)
      · exact .inl z
      · refine .inr ⟨k, ?_, e⟩
        refine Nat.lt_of_not_le fun c => ?_
        have := Nat.mul_le_mul_left lot (tr_mono c)
        omega
theorem for_cons {ρ τ : Type} {step : ρ → Val → Res (Fl ρ τ)} {x : Val} {xs : List Val} {st st1 : ρ} (h : step st x = .ok (.nx st1)) : forM' step (x :: xs) st = forM' step xs st1 := by
  show (step st x >>= _) = _
  rw [h]
  rfl
theorem items_cons (i : Int) (x : Val) (E : Dk) : itemsV ((.inl i, x) :: E) = .tup [.int i, x] :: itemsV E := (rfl)
/-- one lot: all values of the old dict -/
theorem mid_loop {P : List Nat} {lot n : Nat} {D : Dk} (hl : 1 ≤ lot) (hl2 : lot < 18446744073709551616) (hn : n ≤ 1000) (hP : P.length ≤ 1000) (h : Wy P n D) :
    ∃ D', forM' (stM (.int n) (.int lot)) (itemsV D) [] = .ok (.nx D') ∧ Wy (P ++ [lot]) n D' ∧ ∀ u, hs D' u ↔ ∃ v k, hs D v ∧ u = v + lot * tr k ∧ u ≤ n := by
  have go : ∀ (E D0 : Dk), (∀ kv ∈ E, ∃ v ks, kv = (.inl (v : Nat), row ks) ∧ v ≤ n ∧ ks.length = P.length ∧ wr P ks = v) → Wy (P ++ [lot]) n D0 →
      ∃ D', forM' (stM (.int n) (.int lot)) (itemsV E) D0 = .ok (.nx D') ∧ Wy (P ++ [lot]) n D' ∧ ∀ u, hs D' u ↔ hs D0 u ∨ ∃ v k, hs E v ∧ u = v + lot * tr k ∧ u ≤ n := by
    intro E
    induction E with
    | nil =>
      intro D0 _ h0
      refine ⟨D0, rfl, h0, fun u => ⟨.inl, fun q => ?_⟩⟩
      rcases q with q | ⟨v, k, ⟨x, hx⟩, _⟩
      · exact q
      · nomatch hx
    | cons kv E ih =>
      intro D0 hE h0
      obtain ⟨v, ks, e, hv, hk, hw⟩ := hE kv List.mem_cons_self
      subst e
      obtain ⟨D1, e1, w1, q1⟩ := stM_eq hl hl2 hn hP h0 hk hw hv
      obtain ⟨D2, e2, w2, q2⟩ := ih D1 (fun kv m => hE kv (List.mem_cons_of_mem _ m)) w1
      refine ⟨D2, ?_, w2, fun u => ?_⟩
      · rw [items_cons, for_cons e1]
        exact e2
      · rw [q2 u, q1 u]
        constructor
        · rintro ((z | ⟨k, e, l⟩) | ⟨v', k, ⟨x, hx⟩, e, l⟩)
          · exact .inl z
          · exact .inr ⟨v, k, ⟨_, List.mem_cons_self⟩, e, l⟩
          · exact .inr ⟨v', k, ⟨x, List.mem_cons_of_mem _ hx⟩, e, l⟩
        · rintro (z | ⟨v', k, ⟨x, hx⟩, e, l⟩)
          · exact .inl (.inl z)
          · rcases List.mem_cons.mp hx with c | c
            · injection c with c1 c2
              injection c1 with c1
              have c1 := Int.ofNat.inj c1
              subst c1
              exact .inl (.inr ⟨k, e, l⟩)
            · exact .inr ⟨v', k, ⟨x, c⟩, e, l⟩
  obtain ⟨D', e, w, q⟩ := go D [] h.each ⟨fun kv m => (nomatch m), List.nodup_nil⟩
  refine ⟨D', e, w, fun u => ?_⟩
  rw [q u]
  constructor
  · rintro (⟨x, hx⟩ | z)
    · nomatch hx
    · exact z
  · exact .inr
end K47

/-! k47: the mirrors, part G: ways_to, whole -/
namespace K47
open PySem PySem.Spec PyProof.Rows L2 Tv

def stO (n : Val) : Dk → Val → Res (Fl Dk Val) := fun st341 x342 => ((Mon.nx (forM' (stM n x342) (itemsV st341) [])) >>= onlyNx >>= fun st372 => (Pure.pure (.nx (st372 : List (Key × Val)))))
theorem R_snoc {P : List Nat} {a n : Nat} : R (P ++ [a]) n ↔ ∃ m k, R P m ∧ n = m + a * tr k := by
  constructor
  · intro h
    obtain ⟨x, y, h1, h2, e⟩ := h.app
    obtain ⟨m, k, h3, e2⟩ := h2.split
    have := h3.nil0
    exact ⟨x, k, h1, by omega⟩
  · rintro ⟨m, k, h1, e⟩
    obtain ⟨ks, l, w⟩ := R_wr h1
    have := wr_R (L := P ++ [a]) (ks := ks ++ [k]) (by rw [List.length_append, List.length_append, l]; rfl)
    rw [wr_snoc a k l, w, ← e] at this
    exact this
theorem out_loop {n : Nat} (hn : n ≤ 1000) : ∀ (Q P : List Nat) (D : Dk), (∀ a ∈ Q, 1 ≤ a ∧ a < 18446744073709551616) → P.length + Q.length ≤ 1000 → Wy P n D → (∀ u, hs D u ↔ u ≤ n ∧ R P u) →
    ∃ D', forM' (stO (.int n)) (Q.map fun a : Nat => Val.int a) D = .ok (.nx D') ∧ Wy (P ++ Q) n D' ∧ ∀ u, hs D' u ↔ u ≤ n ∧ R (P ++ Q) u
  | [], P, D, _, _, h, q => ⟨D, rfl, by rw [List.append_nil]; exact h, by rw [List.append_nil]; exact q⟩
  | a :: Q, P, D, ha, hl, h, q => by
    rw [List.length_cons] at hl
    obtain ⟨a1, a2⟩ := ha a List.mem_cons_self
    obtain ⟨D1, e1, w1, q1⟩ := mid_loop a1 a2 hn (by omega) h
    have q1' : ∀ u, hs D1 u ↔ u ≤ n ∧ R (P ++ [a]) u := by
      intro u
      rw [q1 u, R_snoc]
      constructor
      · rintro ⟨v, k, hv, e, l⟩
        exact ⟨l, v, k, ((q v).mp hv).2, e⟩
      · rintro ⟨l, v, k, hv, e⟩
        exact ⟨v, k, (q v).mpr ⟨by omega, hv⟩, e, l⟩
    obtain ⟨D2, e2, w2, q2⟩ := out_loop hn Q (P ++ [a]) D1 (fun b m => ha b (List.mem_cons_of_mem _ m)) (by rw [List.length_append, List.length_singleton]; omega) w1 q1'
    rw [List.append_assoc] at w2 q2
    refine ⟨D2, ?_, w2, q2⟩
    have e3 : stO (.int n) D (.int a) = .ok (.nx D1) := by
      unfold stO
      rw [e1]
      rfl
    rw [List.map_cons, for_cons e3]
    exact e2
def lotsV (L : List Nat) : Val := .tup (L.map fun a : Nat => .int a)
theorem ways_to_eq {n : Nat} {L : List Nat} (hn : n ≤ 1000) (ha : ∀ a ∈ L, 1 ≤ a ∧ a < 18446744073709551616) (hl : L.length ≤ 1000) :
    ∃ D, m_ways_to [lotsV L, .int n] = .ok (.dic D) ∧ Wy L n D ∧ ∀ u, hs D u ↔ u ≤ n ∧ R L u := by
  obtain ⟨D, e, w, q⟩ := out_loop hn L [] [(.inl ((0 : Nat) : Int), row [])] ha (by rw [List.length_nil]; omega)
    ⟨fun kv m => ⟨0, [], List.mem_singleton.mp m, Nat.zero_le _, rfl, rfl⟩, List.nodup_cons.mpr ⟨List.not_mem_nil, List.nodup_nil⟩⟩
    (fun u => ⟨fun ⟨x, hx⟩ => by
      have := List.mem_singleton.mp hx
      injection this with h1 h2
      injection h1 with h1
      have h1 := Int.ofNat.inj h1
      subst h1
      exact ⟨Nat.zero_le _, .nil⟩, fun ⟨_, h⟩ => by
      have := h.nil0
      subst this
      exact ⟨_, List.mem_cons_self⟩⟩)
  refine ⟨D, ?_, w, q⟩
  rw [m_ways_to]
  unfold stO stM stI at e
  have t0 : vTup [] = .ok (.tup []) := (rfl)
  have t1 : asKey (.int 0) = some (.inl 0) := (rfl)
  have t2 : vIter (lotsV L) = .ok (L.map fun a : Nat => .int a) := (rfl)
  have t3 : (((Sum.inl (0 : Int) : Key), Val.tup [])) = (.inl ((0 : Nat) : Int), row []) := (rfl)
  rw [qPure, qPure, qOf, t0, qOk, t1]
  dsimp only
  rw [qOf, qOk, qPure, qOf, t2, qOk, t3, e, qOk, qOnly, qOk]
  rfl
end K47

/-! k47: the mirrors, part I: the checks and what they guard -/
namespace K47
open PySem PySem.Spec PyProof.Rows L2 Tv

theorem is_int_eq (v : Int) : m_is_integer [.int v] = .ok (.bl true) := (rfl)
theorem qTruV (b : Bool) : vTruV (.bl b) = .ok b := (rfl)
theorem qTru (b : Bool) : vTru (.bl b) = .ok b := (rfl)
theorem between_eq {v lo hi : Int} (h1 : lo ≤ v) (h2 : v ≤ hi) : m_is_between [.int v, .int lo, .int hi] = .ok (.bl true) := by
  rw [m_is_between]
  simp only [qPure, is_int_eq, qOk, qOf, qTruV, qLe, qBl, decide_eq_true h1, decide_eq_true h2, if_true]
theorem check_number_eq {v : Nat} (h1 : 1 ≤ v) (h2 : v ≤ 1000) : m_check_number [.int v] = .ok .non := by
  rw [m_check_number]
  simp only [qPure, between_eq (v := (v : Int)) (lo := 1) (hi := 1000) (by omega) (by omega), qOk, qOf, qTru]
  rfl
theorem qEqI (i j : Int) : oEq (.int i) (.int j) = .ok (.bl (i == j)) := (rfl)
theorem qNeI (i j : Int) : oNe (.int i) (.int j) = .ok (.bl (!(i == j))) := (rfl)
theorem qEqF {i j : Int} (h : i ≠ j) : oEq (.int i) (.int j) = .ok (.bl false) := by rw [qEqI, beq_eq_false_iff_ne.mpr h]
/-- the turn of check_lots -/
def stC : Unit → Val → Res (Fl Unit Val) := fun st274 x275 => on2 x275 fun v_index276 v_lot277 => ((((Pure.pure v_index276) >>= fun x278 => (Pure.pure (.int 6)) >>= fun x279 => Mon.of (oEq x278 x279 >>= vBl)) >>= fun t289 => if t289 = true then Pure.pure true else (((((Pure.pure v_lot277) >>= fun x285 => ((Pure.pure (.int 1)) >>= fun x283 => ((Pure.pure (.int 1000)) >>= fun x281 => (Pure.pure []) >>= fun xs282 => Pure.pure (x281 :: xs282)) >>= fun xs284 => Pure.pure (x283 :: xs284)) >>= fun xs286 => Pure.pure (x285 :: xs286)) >>= fun xs280 => m_is_between xs280) >>= fun x287 => Mon.of (vTru x287)) >>= fun t288 => Pure.pure (!t288))) >>= fun t290 => if t290 = true then (Mon.of .stuck) else (Pure.pure (.nx (() : Unit))))
theorem stC_eq {i a : Nat} (hi : i < 6) (h1 : 1 ≤ a) (h2 : a ≤ 1000) : stC () (.tup [.int i, .int a]) = .ok (.nx ()) := by
  have e6 : oEq (.int i) (.int 6) = .ok (.bl false) := qEqF (by omega)
  unfold stC
  rw [q2]
  simp only [qPure, qOf, e6, qOk, qBl, between_eq (v := (a : Int)) (lo := 1) (hi := 1000) (by omega) (by omega), qTru]
  rfl
theorem chk_loop : ∀ (L : List Nat) (i : Nat), i + L.length ≤ 6 → (∀ a ∈ L, 1 ≤ a ∧ a ≤ 1000) → forM' stC (enum0 i (L.map fun a : Nat => .int a)) () = .ok (.nx ())
  | [], i, _, _ => rfl
  | a :: L, i, h, ha => by
    rw [List.length_cons] at h
    obtain ⟨h1, h2⟩ := ha a List.mem_cons_self
    show forM' stC (.tup [.int i, .int a] :: enum0 (i + 1) (L.map fun a : Nat => .int a)) () = _
    rw [for_cons (stC_eq (by omega) h1 h2)]
    exact chk_loop L (i + 1) (by omega) fun b m => ha b (List.mem_cons_of_mem _ m)
/-- lots as the law draws them -/
structure Lots (L : List Nat) : Prop where
  ne : 1 ≤ L.length
  le : L.length ≤ 6
  pos : ∀ a ∈ L, 1 ≤ a ∧ a ≤ 1000
theorem check_lots_eq {L : List Nat} (h : Lots L) : m_check_lots [lotsV L] = .ok .non := by
  have t1 : fIsB "tuple" (lotsV L) = .ok (.bl true) := (rfl)
  have t2 : fLen [lotsV L] = .ok (.int L.length) := by
    show Res.ok (Val.int ((L.map fun a : Nat => Val.int a).length : Nat)) = _
    rw [List.length_map]
  have t3 : oEq (.int L.length) (.int 0) = .ok (.bl false) := qEqF (by have := h.ne; omega)
  have t4 : vEnum [lotsV L] = .ok (enum0 0 (L.map fun a : Nat => .int a)) := (rfl)
  have t5 := chk_loop L 0 (by have := h.le; omega) h.pos
  unfold stC at t5
  rw [m_check_lots]
  rw [qPure, t1, qOf, qOk, qTru, qOf, qOk, qPure, Bool.not_true, if_neg Bool.false_ne_true, qPure, qPure, qPure, qOf, t2, qOk, qPure, qOf, t3, qOk, qBl, qOk, if_neg Bool.false_ne_true, qPure [lotsV L], qOf, t4, qOk, t5, qOk, qOnly, qOk]
  rfl
theorem Lots.big {L : List Nat} (h : Lots L) : ∀ a ∈ L, 1 ≤ a ∧ a < 18446744073709551616 := fun a m => ⟨(h.pos a m).1, by have := (h.pos a m).2; omega⟩
theorem rB_iff {L : List Nat} {n : Nat} (h : Lots L) : rB L n = true ↔ R L n := ⟨rB_of, of_rB fun a m => (h.pos a m).1⟩
theorem do_give_eq {L : List Nat} {n : Nat} (h : Lots L) (hn : n ≤ 1000) : m_do_give [lotsV L, .int n] = .ok (.bl (rB L n)) := by
  obtain ⟨D, e, w, q⟩ := ways_to_eq hn h.big (by have := h.le; omega)
  have t : oInD (.int n) (.dic D) = .ok (.bl (valD D (.inl (n : Int))).isSome) := (rfl)
  have t2 : (valD D (.inl (n : Int))).isSome = rB L n := by
    rw [Bool.eq_iff_iff, valD_some, rB_iff h]
    exact ((q n).trans ⟨fun z => z.2, fun z => ⟨Nat.le_refl _, z⟩⟩)
  rw [m_do_give]
  rw [qPure, qPure, qPure, qPure, qPure, qPure, e, qOk, qOf, t, t2]
theorem triangles_give_eq {L : List Nat} {n : Nat} (h : Lots L) (h1 : 1 ≤ n) (hn : n ≤ 1000) : m_triangles_give [lotsV L, .int n] = .ok (.bl (rB L n)) := by
  rw [m_triangles_give]
  simp only [qPure, qOk, check_lots_eq h, check_number_eq h1 hn, do_give_eq h hn]
theorem valD_mem {D : Dk} {j : Key} {x : Val} (h : valD D j = some x) : (j, x) ∈ D := by
  unfold valD at h
  obtain ⟨⟨a, y⟩, h1, h2⟩ := Option.map_eq_some_iff.mp h
  have h5 := List.find?_some h1
  have h3 : a = j := of_decide_eq_true h5
  have h4 := List.mem_of_find?_eq_some h1
  have h2 : y = x := h2
  subst h3 h2
  exact h4
theorem writing_eq {L : List Nat} {n : Nat} (h : Lots L) (h1 : 1 ≤ n) (hn : n ≤ 1000) :
    (rB L n = true ∧ ∃ ks, ks.length = L.length ∧ wr L ks = n ∧ m_triangle_writing [lotsV L, .int n] = .ok (row ks)) ∨ (rB L n = false ∧ m_triangle_writing [lotsV L, .int n] = .ok .non) := by
  obtain ⟨D, e, w, q⟩ := ways_to_eq hn h.big (by have := h.le; omega)
  have t : getD D (.int n) = .ok ((valD D (.inl (n : Int))).getD .non) := (rfl)
  have t0 : asDic (.dic D) = .ok D := (rfl)
  have t2 : (valD D (.inl (n : Int))).isSome = rB L n := by
    rw [Bool.eq_iff_iff, valD_some, rB_iff h]
    exact ((q n).trans ⟨fun z => z.2, fun z => ⟨Nat.le_refl _, z⟩⟩)
  have t3 : m_triangle_writing [lotsV L, .int n] = .ok ((valD D (.inl (n : Int))).getD .non) := by
    rw [m_triangle_writing]
    simp only [qPure, qOk, check_lots_eq h, check_number_eq h1 hn, e, qOf, t0, t]
  cases c : valD D (.inl (n : Int)) with
  | none =>
    rw [c] at t2 t3
    exact .inr ⟨t2.symm, t3⟩
  | some x =>
    rw [c] at t2 t3
    obtain ⟨v, ks, e1, l1, l2, l3⟩ := w.each _ (valD_mem c)
    injection e1 with e1 e2
    injection e1 with e1
    have e1 := Int.ofNat.inj e1
    subst e1 e2
    exact .inl ⟨t2.symm, ks, l2, l3, t3⟩
def leastN (L : List Nat) : List Nat → Option Nat
  | [] => none
  | t :: ts => if rB L t = true then leastN L ts else some t
def natV : Option Nat → Val
  | none => .non
  | some t => .int t
def stL (lots : Val) : Unit → Val → Res (Fl Unit Val) := fun st397 x398 => ((((((Pure.pure lots) >>= fun x402 => ((Pure.pure x398) >>= fun x400 => (Pure.pure []) >>= fun xs401 => Pure.pure (x400 :: xs401)) >>= fun xs403 => Pure.pure (x402 :: xs403)) >>= fun xs399 => m_do_give xs399) >>= fun x404 => Mon.of (vTru x404)) >>= fun t405 => Pure.pure (!t405)) >>= fun t406 => if t406 = true then ((Pure.pure x398) >>= fun v407 => Pure.pure (.rt v407)) else (Pure.pure (.nx (() : Unit))))
theorem stL_eq {L : List Nat} {n : Nat} (h : Lots L) (hn : n ≤ 1000) : stL (lotsV L) () (.int n) = .ok (if rB L n = true then .nx () else .rt (.int n)) := by
  unfold stL
  simp only [qPure, qOk, do_give_eq h hn, qOf, qTru, qP]
  cases rB L n <;> rfl
theorem least_loop {L : List Nat} (h : Lots L) : ∀ ts : List Nat, (∀ t ∈ ts, t ≤ 1000) → forM' (stL (lotsV L)) (ts.map fun t : Nat => .int t) () = .ok (match leastN L ts with | none => .nx () | some t => .rt (.int t))
  | [], _ => rfl
  | t :: ts, ht => by
    have e := stL_eq h (ht t List.mem_cons_self)
    unfold leastN
    by_cases c : rB L t = true
    · rw [if_pos c] at e ⊢
      rw [List.map_cons, for_cons e]
      exact least_loop h ts fun a m => ht a (List.mem_cons_of_mem _ m)
    · rw [if_neg c] at e ⊢
      rw [List.map_cons]
      show (stL (lotsV L) () (.int t) >>= _) = _
      rw [e]
      rfl
end K47

/-! k47: the mirrors, part J: the least missed number, writings -/
namespace K47
open PySem PySem.Spec PyProof.Rows L2 Tv

def T5 : List Nat := [1, 2, 4, 5, 8]
theorem first_lacking_eq {L : List Nat} (h : Lots L) : m_first_lacking [lotsV L] = .ok (natV (leastN L T5)) := by
  have e := least_loop h T5 (by decide)
  have t : vIter (.tup (List.map Val.int [1, 2, 4, 5, 8])) = .ok (T5.map fun t : Nat => .int t) := (rfl)
  rw [m_first_lacking]
  unfold stL at e
  rw [qPure (Val.tup (List.map Val.int [1, 2, 4, 5, 8])), qOf, t, qOk, e, qOk]
  cases leastN L T5 <;> rfl
theorem least_missed_eq {L : List Nat} (h : Lots L) : m_least_triangle_missed [lotsV L] = .ok (natV (leastN L T5)) := by
  rw [m_least_triangle_missed]
  simp only [qPure, qOk, check_lots_eq h, first_lacking_eq h]
theorem triangles_all_eq {L : List Nat} (h : Lots L) : m_triangles_all [lotsV L] = .ok (.bl (leastN L T5).isNone) := by
  have t : oIsN (natV (leastN L T5)) .non = .ok (.bl (leastN L T5).isNone) := by
    cases leastN L T5 <;> rfl
  rw [m_triangles_all]
  simp only [qPure, qOk, check_lots_eq h, first_lacking_eq h, qOf, t]
def stW : Val → Res (Option Val) := fun v441 => (((((Pure.pure v441) >>= fun x442 => Mon.of (fIsB "int" x442)) >>= fun x443 => Mon.of (vTru x443)) >>= fun t444 => Pure.pure (!t444)) >>= fun t450 => if t450 = true then Pure.pure true else ((((Pure.pure v441) >>= fun x445 => Mon.of (fIsB "bool" x445)) >>= fun x446 => Mon.of (vTru x446)) >>= fun t449 => if t449 = true then Pure.pure true else ((Pure.pure v441) >>= fun x447 => (Pure.pure (.int 0)) >>= fun x448 => Mon.of (oLt x447 x448 >>= vBl)))) >>= fun t452 => if t452 = true then (Pure.pure v441) >>= fun x451 => Pure.pure (some x451) else Pure.pure none
theorem qLt (i j : Int) : oLt (.int i) (.int j) = .ok (.bl (decide (i < j))) := (rfl)
theorem stW_eq (k : Nat) : stW (.int k) = .ok none := by
  have t1 : fIsB "int" (.int k) = .ok (.bl true) := (rfl)
  have t2 : fIsB "bool" (.int k) = .ok (.bl false) := (rfl)
  have t3 : decide ((k : Int) < 0) = false := decide_eq_false (by omega)
  unfold stW
  simp only [qPure, qOf, t1, qOk, qTru, t2, qLt, qBl, t3]
  rfl
theorem lcW : ∀ ks : List Nat, lcM stW (ks.map fun k : Nat => Val.int k) = .ok []
  | [] => rfl
  | k :: ks => by
    rw [List.map_cons]
    unfold lcM
    rw [stW_eq, qOk, lcW ks, qOk]
    rfl
def stZ : Val → Res Val := fun z_ => on2 z_ fun v466 v467 => ((((Pure.pure v466) >>= fun x468 => (Pure.pure v467) >>= fun x469 => Mon.of (oMul x468 x469)) >>= fun x472 => ((Pure.pure v467) >>= fun x470 => (Pure.pure (.int 1)) >>= fun x471 => Mon.of (oAdd x470 x471)) >>= fun x473 => Mon.of (oMul x472 x473)) >>= fun x474 => (Pure.pure (.int 2)) >>= fun x475 => Mon.of (oFdiv x474 x475))
theorem oMul_r (i : Int) {j : Int} (h : smallB j = true) : oMul (.int i) (.int j) = .ok (.int (i * j)) := by
  show (if (smallB i || smallB j) = true then _ else _) = _
  rw [h, Bool.or_true]; rfl
theorem fdiv2L (a k : Nat) : ((a : Int) * (k : Int) * ((k : Int) + 1)).fdiv 2 = (a * tr k : Nat) := by
  have e : ((a : Int) * (k : Int) * ((k : Int) + 1)) = ((a * (k * (k + 1)) : Nat) : Int) := by push_cast; rw [Int.mul_assoc]
  rw [e, Int.fdiv_eq_ediv_of_nonneg _ (by decide)]
  have e2 : a * (k * (k + 1)) / 2 = a * tr k := by
    unfold tr
    have : 2 ∣ k * (k + 1) := by
      rcases Nat.mod_two_eq_zero_or_one k with h | h
      · exact Nat.dvd_trans (Nat.dvd_of_mod_eq_zero h) (Nat.dvd_mul_right _ _)
      · exact Nat.dvd_trans (Nat.dvd_of_mod_eq_zero (by omega)) (Nat.dvd_mul_left _ _)
    exact Nat.mul_div_assoc a this
  rw [← e2]
  rfl
theorem stZ_eq {a k : Nat} (ha : a ≤ 1000) (hk : k ≤ 1000) : stZ (.tup [.int a, .int k]) = .ok (.int (a * tr k : Nat)) := by
  have e1 : oMul (.int a) (.int k) = .ok (.int (a * k)) := oMul_l _ (small_nat (by omega))
  have e2 : oMul (.int ((a : Int) * k)) (.int ((k : Int) + 1)) = .ok (.int ((a : Int) * k * (k + 1))) := oMul_r _ (small_nat (k := k + 1) (by omega))
  unfold stZ
  simp only [q2, qPure, qOf, qAdd, qOk, e1, e2, qF2, fdiv2L]
theorem map_for {f : Val → Res Val} {x y : Val} {xs ys : List Val} (h : f x = .ok y) (h2 : mapM' f xs = .ok ys) : mapM' f (x :: xs) = .ok (y :: ys) := by
  show (f x >>= _) = _
  rw [h, qOk, h2]
  rfl
theorem zip_loop : ∀ {L ks : List Nat}, ks.length = L.length → (∀ a ∈ L, a ≤ 1000) → (∀ k ∈ ks, k ≤ 1000) →
    ∃ ns : List Nat, mapM' stZ (zipV (L.map fun a : Nat => .int a) (ks.map fun a : Nat => .int a)) = .ok (ns.map fun a : Nat => .int a) ∧ ns.sum = wr L ks ∧ ns.length = L.length
  | [], [], _, _, _ => ⟨[], rfl, rfl, rfl⟩
  | a :: L, k :: ks, h, h1, h2 => by
    obtain ⟨ns, e, s, l⟩ := zip_loop (Nat.succ.inj h) (fun b m => h1 b (List.mem_cons_of_mem _ m)) (fun b m => h2 b (List.mem_cons_of_mem _ m))
    refine ⟨a * tr k :: ns, ?_, ?_, congrArg (· + 1) l⟩
    · exact map_for (stZ_eq (h1 a List.mem_cons_self) (h2 k List.mem_cons_self)) e
    · rw [List.sum_cons, s]; rfl
theorem wr_le : ∀ {L ks : List Nat}, ks.length = L.length → (∀ a ∈ L, 1 ≤ a) → ∀ k ∈ ks, k ≤ wr L ks
  | [], [], _, _, _, m => nomatch m
  | a :: L, k :: ks, h, h1, j, m => by
    show j ≤ a * tr k + wr L ks
    rcases List.mem_cons.mp m with e | m
    · subst e
      have := tr_ge j
      have := Nat.mul_le_mul_right (tr j) (h1 a List.mem_cons_self)
      omega
    · have := wr_le (Nat.succ.inj h) (fun b m => h1 b (List.mem_cons_of_mem _ m)) j m
      omega
end K47

/-! draws: _law_pail, _law_pull -/
namespace K47
open PySem PySem.Spec PyProof.Rows L2 Tv

theorem pull_go {n : Nat} {S : Cells} {many : Int} {Q : Val → Cells → Prop} (h : Pail n S) (h1 : 0 < many) (h2 : many < 1073741824) (q : ∀ d S', 0 ≤ d → d < many → Pail n S' → Q (.int d) S') : Go (m__law_pull [.cell n, .int many]) S Q := by
  obtain ⟨a, s, t, e, ha, hs⟩ := h
  have hn : n < S.length := (List.getElem?_eq_some_iff.mp e).1
  have set1 : ∀ {S : Cells} {v : Val}, n < S.length → (S.set n v)[n]? = some v := fun h => by rw [List.getElem?_set_self h]
  rw [q__law_pull]
  unfold n__law_pull
  refine Go.bind (Go.bind (goIx (i := 0) e rfl (Go.of (a := decide (0 < a)) (by rw [qGt, qOk, qBl]) ?_)))
  refine Go.ite (fun c => ?_) (fun c => ?_)
  · refine Go.bind (Go.bind (Go.bind (goIx (i := 0) e rfl (Go.pure (Go.of (qDivmod a h1 h2) ?_)))))
    rw [Tv.q2]
    refine Go.bind (goSet (i := 0) e (Nat.le_of_ble_eq_true rfl) (Nat.le_of_ble_eq_true rfl) (Go.pure (q _ _ (Int.emod_nonneg _ (by omega)) (Int.emod_lt_of_pos _ h1) ?_)))
    exact ⟨a / many, s, t, set1 hn, Int.ediv_nonneg ha (by omega), hs⟩
  · refine Go.bind (Go.bind (goIx (i := 2) e rfl (Go.of (qAdd t 1) ?_)))
    refine Go.bind (goSet (i := 2) e (Nat.le_of_ble_eq_true rfl) (Nat.le_of_ble_eq_true rfl) ?_)
    have e1 : (S.set n (.lst ([Val.int a, .int s, .int t].set 2 (.int (t + 1)))))[n]? = some (.lst [.int a, .int s, .int (t + 1)]) := set1 hn
    have hn1 : n < (S.set n (.lst ([Val.int a, .int s, .int t].set 2 (.int (t + 1))))).length := by rw [List.length_set]; exact hn
    refine Go.bind (Go.bind (Go.bind (Go.bind (Go.bind (Go.bind (goIx (i := 1) e1 rfl (Go.of (qMulR s (by decide)) (Go.bind (Go.bind (goIx (i := 2) e1 rfl (Go.of (qMulL (t + 1) (by decide)) (Go.of (qAdd _ _) (Go.pure (Go.of (qIntI _) (Go.of (qMod _ (by decide)) ?_)))))))))))))))
    have hs2 : 0 ≤ (s * 42013 + 23003 * (t + 1)) % 2147483477 := Int.emod_nonneg _ (by decide)
    generalize (s * 42013 + 23003 * (t + 1)) % 2147483477 = s2 at hs2 ⊢
    refine Go.bind (goSet (i := 1) e1 (Nat.le_of_ble_eq_true rfl) (Nat.le_of_ble_eq_true rfl) ?_)
    generalize hS2 : (S.set n (.lst ([Val.int a, .int s, .int t].set 2 (.int (t + 1))))).set n (.lst ([Val.int a, .int s, .int (t + 1)].set 1 (.int s2))) = S2
    have e2 : S2[n]? = some (.lst [.int a, .int s2, .int (t + 1)]) := by rw [← hS2]; exact set1 hn1
    refine Go.bind (Go.bind (Go.bind (Go.bind (goIx (i := 1) e2 rfl (Go.of (qFdiv s2 (by decide) (by decide)) (Go.pure (Go.of (qIntI _) ?_)))))))
    refine Go.of (qMod _ h1) (q _ _ (Int.emod_nonneg _ (by omega)) (Int.emod_lt_of_pos _ h1) ?_)
    exact ⟨a, s2, t + 1, e2, ha, hs2⟩
theorem cut6 (ns : List Int) : ∃ ks : List Int, cutA (ns.map Val.int) none (some 6) = ks.map Val.int ∧ ks.length ≤ ns.length := by
  refine ⟨(ns.drop 0).take (HT.sIx ns.length ns.length (some 6)), ?_, ?_⟩
  · unfold cutA
    rw [List.length_map, ← List.map_drop, ← List.map_take]
    rfl
  · rw [List.length_take, List.drop_zero]
    omega
theorem pail_go {ns : List Int} {turn : Nat} {S : Cells} {Q : Val → Cells → Prop} (hl : ns.length ≤ 63) (ht : turn ≤ 1000) (q : ∀ n S', Pail n S' → Q (.cell n) S') : Go (m__law_pail [.scr (ns.map .int), .int turn]) S Q := by
  have l1 : fLen [.scr (ns.map Val.int)] = .ok (.int ns.length) := by rw [qLenS, List.length_map]
  rw [q__law_pail]
  unfold n__law_pail
  refine Go.bind (Go.mono (Q := fun v S' => S' = S ∧ ∃ f : Int, v = .int f) ?_ ?_)
  · refine Go.bind (Go.ofB l1 (Go.of (a := decide ((turn : Int) < ns.length)) (by rw [qLt, qOk, qBl]) ?_))
    refine Go.ite (fun c => ?_) (fun c => ?_)
    · have c := of_decide_eq_true c
      have ht2 : turn < ns.length := by omega
      refine ⟨.int ns[turn], S, ?_, rfl, _, rfl⟩
      show (ixV (ns.map Val.int) (turn : Int), S) = _
      rw [qIx (x := .int ns[turn]) (by rw [List.getElem?_map, List.getElem?_eq_getElem ht2]; rfl)]
    · exact Go.ofB (qMulR 31 (smallNat (by omega))) (Go.of (qAdd _ _) ⟨rfl, _, rfl⟩)
  rintro _ _ ⟨rfl, f, rfl⟩
  refine Go.bind (Go.ofB (qMulR 36007 (smallNat (by omega))) (Go.of (qAdd _ _) ?_))
  obtain ⟨ks, ek, lk⟩ := cut6 ns
  have sl : oSl (.scr (ns.map Val.int)) none (some 6) = .ok (.lst (ks.map Val.int)) := by
    show Res.ok (Val.lst _) = _
    rw [ek]
  have cat : oAdd (.lst [.int f]) (.lst (ks.map Val.int)) = .ok (.lst (([f] ++ ks).map Val.int)) := by
    rw [qCatL (by rw [List.length_map]; show 1 + _ ≤ _; omega), List.map_append]; rfl
  refine Go.bind (Go.mono (Q := fun v _ => ∃ s : Int, v = .int s ∧ 0 ≤ s) ?_ ?_)
  · refine Go.onlyNx (Go.bind (Go.bind (Go.ofB (qLst (Nat.le_of_ble_eq_true rfl)) (Go.bind (Go.bind (Go.of (a := some 6) rfl (Go.of sl (Go.of cat (Go.of (qItL _) ?_)))))))))
    refine (Go.forOn (fun (_ : List Val) (st : Val) (_ : Cells) => ∃ s : Int, st = .int s ∧ 0 ≤ s) _ [] _ _ ?_ ⟨_, rfl, by omega⟩)
    rintro d x r _ S2 e ⟨s, rfl, hs⟩
    have hx : x ∈ List.map Val.int ([f] ++ ks) := by
      rw [List.nil_append] at e
      rw [e]; simp
    obtain ⟨i, _, rfl⟩ := List.mem_map.mp hx
    unfold l__law_pail_1
    refine Go.bind (Go.bind (Go.bind (Go.bind (Go.ofB (qMulR s (by decide)) (Go.of (qAdd _ _) (Go.pure (Go.of (qIntI _) (Go.of (qMod _ (by decide)) ?_))))))))
    exact Go.pure ⟨_, rfl, _, rfl, Int.emod_nonneg _ (by decide)⟩
  rintro _ S2 ⟨s, rfl, hs⟩
  refine Go.bind (Go.bind (Go.mono (Q := fun v _ => ∃ a : Int, v = .int a ∧ 0 ≤ a) ?_ ?_))
  · refine Go.bind (Go.ofB (a := Val.int (if f < 0 then -f else f)) rfl (Go.ofB (a := Val.int (10 ^ 18)) rfl (Go.of (a := decide ((10 ^ 18 : Int) ≤ (if f < 0 then -f else f))) (by rw [qGe, qOk, qBl]) ?_)))
    refine Go.ite (fun c => ?_) (fun c => ?_)
    · exact Go.of (a := Val.int (if f < 0 then -f else f)) rfl ⟨_, rfl, by split <;> omega⟩
    · exact Go.pure ⟨_, rfl, by decide⟩
  rintro _ S3 ⟨a, rfl, ha⟩
  refine Go.pure ⟨.cell S3.length, S3 ++ [.lst [.int a, .int s, .int 0]], ?_, q _ _ ⟨a, s, 0, ?_, ha, hs⟩⟩
  · rfl
  · rw [List.getElem?_append_right (Nat.le_refl _), Nat.sub_self]; rfl
end K47

/-! k47: the mirrors, part K: the law's own sums -/
namespace K47
open PySem PySem.Spec PyProof.Rows L2 Tv

def natsV (xs : List Nat) : List Val := xs.map fun n : Nat => .int n
theorem natsV_ints : ∀ xs : List Nat, intsV (natsV xs) = some (xs.map fun n : Nat => (n : Int))
  | [] => rfl
  | x :: xs => by
    show (intsV (natsV xs)).map _ = _
    rw [natsV_ints xs]; rfl
theorem natsV_int (xs : List Nat) : natsV xs = (xs.map fun n : Nat => (n : Int)).map Val.int := by
  unfold natsV
  rw [List.map_map]; rfl
/-- sorted(set(..)) of numbers up to a bound -/
theorem sortedSet_eq {xs ys : List Nat} (hl : xs.length ≤ 4000) (hy : ys.Pairwise (· < ·)) (hb : ∀ y ∈ ys, y < 63) (hm : ∀ n, n ∈ ys ↔ n ∈ xs) : fSortedSet (.lst (natsV xs)) = .ok (.lst (natsV ys)) := by
  have hy2 : (ys.map fun n : Nat => (n : Int)).Pairwise (· ≤ ·) := List.pairwise_map.mpr (hy.imp fun h => Int.ofNat_le.mpr (Nat.le_of_lt h))
  have hnd : ys.Nodup := hy.imp fun h => Nat.ne_of_lt h
  have hnd2 : (ys.map fun n : Nat => (n : Int)).Nodup := List.pairwise_map.mpr (hnd.imp fun h e => h (Int.ofNat.inj e))
  have hmem : ∀ x : Int, x ∈ (ys.map fun n : Nat => (n : Int)) ↔ x ∈ dedupI (xs.map fun n : Nat => (n : Int)) := fun x => by
    rw [dedupI_mem, List.mem_map, List.mem_map]
    exact ⟨fun ⟨n, h, e⟩ => ⟨n, (hm n).mp h, e⟩, fun ⟨n, h, e⟩ => ⟨n, (hm n).mpr h, e⟩⟩
  have p := perm_nodup hnd2 (dedupI_nodup _) hmem
  have hlen : ys.length < 64 := by
    have := nd_len 63 ys hnd hb
    omega
  have hl2 : (dedupI (xs.map fun n : Nat => (n : Int))).length < 64 := by
    rw [← p.length_eq, List.length_map]; exact hlen
  have e := sorted_eq p hy2
  show (match intsV (natsV xs) with | some ns => if ns.length + 1 < scanBound ∧ (dedupI ns).length < 64 then Res.ok (Val.lst ((sortI (dedupI ns)).map .int)) else .stuck | none => .stuck) = _
  rw [natsV_ints]
  have h4 : scanBound = 4096 := rfl
  show (if _ then _ else _) = _
  rw [if_pos ⟨by rw [List.length_map, h4]; omega, hl2⟩, ← e, natsV_int]
theorem tri20 {a k : Nat} (ha : a ≤ 1000) (hk : k < 20) : l__law_sums_1 (.int a) (.int k) = .ok (.int (a * tr k : Nat)) := by
  unfold l__law_sums_1
  have hs : smallB ((k : Int) + 1) = true := small_nat (k := k + 1) (by omega)
  rw [oMul_l _ (small_nat (by omega)), qOk, Tv.qAdd, qOk, oMul_r _ hs, qOk, qF2, fdiv2L]
def ms (a : Nat) : List Nat := (List.range 20).map fun k => a * tr k
theorem some_eq {a : Nat} (ha : a ≤ 1000) : mapM' (l__law_sums_1 (.int a)) (upto 20) = .ok (natsV (ms a)) := by
  unfold upto natsV ms
  rw [List.map_map]
  exact mapOf fun k hk => tri20 ha (List.mem_range.mp hk)
theorem lc2_eq (v : Nat) (xs : List Nat) : lcM (l__law_sums_2 (.int v) (.int 60)) (natsV xs) = .ok (natsV ((xs.filter fun m => decide (v + m ≤ 60)).map fun m => v + m)) := by
  unfold natsV
  rw [List.map_map]
  refine lcOf fun m _ => ?_
  have e : decide ((v : Int) + (m : Int) ≤ 60) = decide (v + m ≤ 60) := by
    rw [decide_eq_decide]; omega
  unfold l__law_sums_2
  rw [Tv.qAdd, qOk, Tv.qLe, qOk, Tv.qBl, qOk, e, qOk]
  cases decide (v + m ≤ 60) <;> rfl
theorem st3_eq {v : Nat} {acc xs : List Nat} (h : acc.length + xs.length ≤ 9000) : l__law_sums_3 (.lst (natsV xs)) (.int 60) (.lst (natsV acc)) (.int v) = .ok (.nx (.lst (natsV (acc ++ (xs.filter fun m => decide (v + m ≤ 60)).map fun m => v + m)))) := by
  have hl : ((xs.filter fun m => decide (v + m ≤ 60)).map fun m => v + m).length ≤ xs.length := by
    rw [List.length_map]; exact List.length_filter_le _ _
  have e1 : natsV acc ++ natsV ((xs.filter fun m => decide (v + m ≤ 60)).map fun m => v + m) = natsV (acc ++ (xs.filter fun m => decide (v + m ≤ 60)).map fun m => v + m) := by
    unfold natsV
    rw [← List.map_append]
  have e2 : ∀ z : List Nat, (natsV z).length = z.length := fun z => List.length_map ..
  unfold l__law_sums_3
  rw [qItL, qOk, lc2_eq, qNxOk, qOk, qLst (by rw [e2]; omega), qOk, qCatL (by rw [e2, e2]; omega), qOk, e1]
  rfl
theorem st3_loop (xs : List Nat) : ∀ (vs acc : List Nat), acc.length + (vs.length + 1) * xs.length ≤ 9000 →
    ∃ ys, forM' (l__law_sums_3 (.lst (natsV xs)) (.int 60)) (natsV vs) (.lst (natsV acc)) = .ok (.nx (.lst (natsV ys))) ∧ ys.length ≤ acc.length + vs.length * xs.length ∧
      ∀ n, n ∈ ys ↔ n ∈ acc ∨ ∃ v ∈ vs, ∃ m ∈ xs, v + m ≤ 60 ∧ n = v + m
  | [], acc, h => ⟨acc, rfl, by omega, fun n => ⟨.inl, fun z => z.elim id fun ⟨v, h, _⟩ => (nomatch h)⟩⟩
  | v :: vs, acc, h => by
    rw [List.length_cons] at h
    have hmul : (vs.length + 1 + 1) * xs.length = (vs.length + 1) * xs.length + xs.length := by rw [Nat.add_mul, Nat.one_mul]
    have hmul2 : (vs.length + 1) * xs.length = vs.length * xs.length + xs.length := by rw [Nat.add_mul, Nat.one_mul]
    have hl : ((xs.filter fun m => decide (v + m ≤ 60)).map fun m => v + m).length ≤ xs.length := by
      rw [List.length_map]; exact List.length_filter_le _ _
    obtain ⟨ys, e, l, q⟩ := st3_loop xs vs (acc ++ (xs.filter fun m => decide (v + m ≤ 60)).map fun m => v + m) (by rw [List.length_append]; omega)
    refine ⟨ys, ?_, ?_, fun n => ?_⟩
    · show forM' _ (Val.int v :: natsV vs) _ = _
      rw [forCons (st3_eq (by omega))]
      exact e
    · rw [List.length_append] at l
      rw [List.length_cons]
      omega
    · rw [q n, List.mem_append, List.mem_map]
      constructor
      · rintro ((z | ⟨m, hm, e⟩) | ⟨w, hw, m, hm, l, e⟩)
        · exact .inl z
        · obtain ⟨h1, h2⟩ := List.mem_filter.mp hm
          exact .inr ⟨v, List.mem_cons_self, m, h1, of_decide_eq_true h2, e.symm⟩
        · exact .inr ⟨w, List.mem_cons_of_mem _ hw, m, hm, l, e⟩
      · rintro (z | ⟨w, hw, m, hm, l2, e3⟩)
        · exact .inl (.inl z)
        · rcases List.mem_cons.mp hw with e2 | hw
          · subst e2
            exact .inl (.inr ⟨m, List.mem_filter.mpr ⟨hm, decide_eq_true l2⟩, e3.symm⟩)
          · exact .inr ⟨w, hw, m, hm, l2, e3⟩
/-- the numbers up to 60 that L gives, 0 among them -/
def sumsN (L : List Nat) : List Nat := (List.range 61).filter fun n => rB L n
theorem sumsN_sorted (L : List Nat) : (sumsN L).Pairwise (· < ·) := List.Pairwise.filter _ List.pairwise_lt_range
theorem sumsN_len (L : List Nat) : (sumsN L).length ≤ 61 := by
  have := List.length_filter_le (fun n => rB L n) (List.range 61)
  rw [List.length_range] at this
  exact this
theorem sumsN_mem {L : List Nat} (hp : ∀ a ∈ L, 0 < a) (n : Nat) : n ∈ sumsN L ↔ n ≤ 60 ∧ R L n := by
  unfold sumsN
  rw [List.mem_filter, List.mem_range]
  exact ⟨fun ⟨a, b⟩ => ⟨by omega, rB_of b⟩, fun ⟨a, b⟩ => ⟨by omega, of_rB hp b⟩⟩
theorem st4_eq {P : List Nat} {a : Nat} (hp : ∀ x ∈ P, 0 < x) (h1 : 1 ≤ a) (h2 : a ≤ 1000) : l__law_sums_4 (.int 60) (.lst (natsV (sumsN P))) (.int a) = .ok (.nx (.lst (natsV (sumsN (a :: P))))) := by
  have hl := sumsN_len P
  have hm : (ms a).length = 20 := by unfold ms; rw [List.length_map, List.length_range]
  obtain ⟨ys, e, l, q⟩ := st3_loop (ms a) (sumsN P) [] (by
    have := Nat.mul_le_mul_right (ms a).length (Nat.succ_le_succ hl)
    rw [hm] at this ⊢
    show 0 + _ ≤ _
    have h : ((sumsN P).length + 1) * 20 ≤ 62 * 20 := this
    omega)
  have hp2 : ∀ x ∈ a :: P, 0 < x := fun x hx => (List.mem_cons.mp hx).elim (fun e => by omega) (hp x)
  have hs : fSortedSet (.lst (natsV ys)) = .ok (.lst (natsV (sumsN (a :: P)))) := by
    refine sortedSet_eq ?_ (sumsN_sorted _) (fun y hy => ?_) fun n => ?_
    · have := Nat.mul_le_mul_right (ms a).length hl
      rw [hm] at this l
      have : (sumsN P).length * 20 ≤ 61 * 20 := this
      have l : ys.length ≤ 0 + (sumsN P).length * 20 := l
      omega
    · have := ((sumsN_mem hp2 y).mp hy).1
      omega
    · rw [q n, sumsN_mem hp2]
      constructor
      · rintro ⟨h3, h4⟩
        obtain ⟨m, k, h5, e5⟩ := h4.split
        have hk : k < 20 := by
          have h6 := tr_ge k
          have h7 := Nat.mul_le_mul_right (tr k) h1
          refine Nat.lt_of_not_le fun z => ?_
          have h8 := tr_mono z
          have h9 : tr 20 = 210 := by decide
          omega
        exact .inr ⟨m, (sumsN_mem hp m).mpr ⟨by omega, h5⟩, a * tr k, List.mem_map.mpr ⟨k, List.mem_range.mpr hk, rfl⟩, by omega, e5⟩
      · rintro (z | ⟨v, hv, m, hm, l, e⟩)
        · nomatch z
        · obtain ⟨k, _, ek⟩ := List.mem_map.mp hm
          obtain ⟨_, hv2⟩ := (sumsN_mem hp v).mp hv
          subst e
          refine ⟨l, ?_⟩
          rw [← ek]
          exact .cons k hv2
  unfold l__law_sums_4
  have r20 : vRange1 [.int 20] = .ok (upto 20) := qRange1 (n := 20) (by decide)
  have l20 : (natsV (ms a)).length ≤ 10000 := by
    unfold natsV
    rw [List.length_map, hm]; decide
  rw [r20, qOk, some_eq h2, qNxOk, qOk, qLst l20, qOk, qLst (by decide), qOk, qItL, qOk, show (.lst [] : Val) = .lst (natsV []) from rfl, e, qOk, qOnly, qOk, hs, qOk]
  rfl
theorem sums_loop : ∀ (L P : List Nat), (∀ a ∈ L, 1 ≤ a ∧ a ≤ 1000) → (∀ a ∈ P, 0 < a) → forM' (l__law_sums_4 (.int 60)) (natsV L) (.lst (natsV (sumsN P))) = .ok (.nx (.lst (natsV (sumsN (L.reverse ++ P)))))
  | [], P, _, _ => rfl
  | a :: L, P, h, hp => by
    obtain ⟨h1, h2⟩ := h a List.mem_cons_self
    show forM' _ (Val.int a :: natsV L) _ = _
    rw [forCons (st4_eq hp h1 h2), sums_loop L (a :: P) (fun b m => h b (List.mem_cons_of_mem _ m)) fun x hx => (List.mem_cons.mp hx).elim (fun e => by omega) (hp x), List.reverse_cons, List.append_assoc]
    rfl
theorem rB_perm {L L' : List Nat} (p : L.Perm L') (hp : ∀ a ∈ L, 0 < a) (n : Nat) : rB L n = rB L' n := by
  have hp' : ∀ a ∈ L', 0 < a := fun a m => hp a (p.mem_iff.mpr m)
  rw [Bool.eq_iff_iff]
  exact ⟨fun h => of_rB hp' ((rB_of h).perm p), fun h => of_rB hp ((rB_of h).perm p.symm)⟩
theorem sums_eq {L : List Nat} (h : Lots L) : m__law_sums [lotsV L, .int 60] = .ok (.lst (natsV (sumsN L))) := by
  have e0 : sumsN [] = [0] := by decide +kernel
  have hp : ∀ a ∈ L, 0 < a := fun a m => (h.pos a m).1
  have e : sumsN (L.reverse ++ []) = sumsN L := by
    unfold sumsN
    refine List.filter_congr fun n _ => ?_
    rw [List.append_nil]
    exact (rB_perm L.reverse_perm.symm hp n).symm
  have t2 : vIter (lotsV L) = .ok (natsV L) := (rfl)
  have := sums_loop L [] h.pos fun a m => nomatch m
  rw [e0] at this
  rw [q__law_sums]
  unfold n__law_sums
  rw [qLst (by decide), qOk, t2, qOk, show ([.int 0] : List Val) = natsV [0] from rfl, this, e, qOk, qOnly, qOk]
  rfl
end K47

/-! k47: drawn lots -/
namespace K47
open PySem PySem.Spec PyProof.Rows L2 Tv

def menuL : List (List Nat) := [[1, 1, 1], [1, 1, 3], [1, 1, 3, 8], [1, 2], [1, 1, 4], [1, 2, 4], [1, 1, 3, 3], [1, 2, 3], [1, 1, 5], [1, 1, 2]]
def eightL : List Nat := [1, 1, 2, 3, 5, 8, 40, 1000]
theorem intN {d : Int} (h : 0 ≤ d) : ∃ n : Nat, d = n := ⟨d.toNat, by omega⟩
theorem lots_go {n : Nat} {S : Cells} {Q : Val → Cells → Prop} (h : Pail n S) (q : ∀ L S', Lots L → Pail n S' → Q (lotsV L) S') : Go (m__law_drawn_lots [.cell n]) S Q := by
  rw [q__law_drawn_lots]
  unfold n__law_drawn_lots
  refine Go.bind ⟨.lst (menuL.map lotsV), S, rfl, ?_⟩
  refine Go.bind (Go.bind (pull_go h (by decide) (by decide) fun d S1 h1 h2 p1 => ?_))
  refine Go.of (a := d == 0) (by rw [qEqI, qOk, qBl]) (Go.ite (fun c => ?_) (fun c => ?_))
  · refine Go.bind (pull_go p1 (by decide) (by decide) fun d S2 h1 h2 p2 => ?_)
    obtain ⟨i, rfl⟩ := intN h1
    have hi : i < menuL.length := by show i < 10; omega
    refine ⟨lotsV menuL[i], S2, ?_, q _ _ ?_ p2⟩
    · show (ixV (menuL.map lotsV) (i : Int), S2) = _
      rw [qIx (x := lotsV menuL[i]) (by rw [List.getElem?_map, List.getElem?_eq_getElem hi]; rfl)]
    · have all : ∀ L ∈ menuL, Lots L := by
        intro L hL
        have hb : (menuL.all fun L => decide (1 ≤ L.length) && decide (L.length ≤ 6) && L.all fun a => decide (1 ≤ a) && decide (a ≤ 1000)) = true := by decide
        have := List.all_eq_true.mp hb L hL
        simp only [Bool.and_eq_true, decide_eq_true_eq, List.all_eq_true] at this
        exact ⟨this.1.1, this.1.2, this.2⟩
      exact all _ (List.getElem_mem hi)
  · refine Go.bind (Go.bind (Go.bind (Go.bind (Go.bind (Go.bind (pull_go p1 (by decide) (by decide) fun d S2 h1 h2 p2 => ?_))))))
    obtain ⟨k, rfl⟩ := intN h1
    refine Go.of (qAdd 1 _) (Go.pure (Go.of (a := upto (1 + k)) ?_ ?_))
    · have := qRange1 (n := 1 + k) (by omega)
      rwa [Int.natCast_add] at this
    · refine Go.bind (Go.nx (Go.mono (Go.mapOn (R := fun v => ∃ a : Nat, v = .int a ∧ 1 ≤ a ∧ a ≤ 1000) (P := Pail n) _ _ ?_ p2) ?_))
      · intro x _ S3 p3
        unfold l__law_drawn_lots_1
        refine Go.bind ⟨.lst (eightL.map fun a : Nat => .int a), S3, rfl, ?_⟩
        refine Go.bind (pull_go p3 (by decide) (by decide) fun d S4 h1 h2 p4 => ?_)
        obtain ⟨i, rfl⟩ := intN h1
        have hi : i < eightL.length := by show i < 8; omega
        refine ⟨.int eightL[i], S4, ?_, ⟨_, rfl, ?_⟩, p4⟩
        · show (ixV (eightL.map fun a : Nat => Val.int a) (i : Int), S4) = _
          rw [qIx (x := .int eightL[i]) (by rw [List.getElem?_map, List.getElem?_eq_getElem hi]; rfl)]
        · have hb : ∀ a ∈ eightL, 1 ≤ a ∧ a ≤ 1000 := by decide
          exact hb _ (List.getElem_mem hi)
      · rintro ys S3 ⟨⟨hl, hr⟩, p3⟩
        have hl : ys.length = 1 + k := by rw [hl]; unfold upto; rw [List.length_map, List.length_range]
        have ex : ∀ ys : List Val, (∀ v ∈ ys, ∃ a : Nat, v = .int a ∧ 1 ≤ a ∧ a ≤ 1000) → ∃ L : List Nat, ys = L.map (fun a : Nat => Val.int a) ∧ ∀ a ∈ L, 1 ≤ a ∧ a ≤ 1000 := by
          intro ys
          induction ys with
          | nil => exact fun _ => ⟨[], rfl, fun a m => nomatch m⟩
          | cons y ys ih =>
            intro h
            obtain ⟨a, rfl, ha⟩ := h y List.mem_cons_self
            obtain ⟨L, rfl, hL⟩ := ih fun v m => h v (List.mem_cons_of_mem _ m)
            exact ⟨a :: L, rfl, fun b m => (List.mem_cons.mp m).elim (fun e => e ▸ ha) (hL b)⟩
        obtain ⟨L, rfl, hL⟩ := ex ys hr
        rw [List.length_map] at hl
        refine Go.of (qLst (by rw [List.length_map]; omega)) (Go.pure (Go.of (qTupL _) ?_))
        exact q L S3 ⟨by omega, by omega, hL⟩ p3
end K47

/-! k47: one turn of the law -/
namespace K47
open PySem PySem.Spec PyProof.Rows L2 Tv

theorem sum_cast : ∀ ns : List Nat, (ns.map fun n : Nat => (n : Int)).sum = (ns.sum : Nat)
  | [] => rfl
  | n :: ns => by rw [List.map_cons, List.sum_cons, List.sum_cons, sum_cast ns]; omega
theorem natsV_len (xs : List Nat) : (natsV xs).length = xs.length := List.length_map ..
theorem is_writing_eq {L ks : List Nat} {n : Nat} (h : Lots L) (hn : n ≤ 60) (hk : ks.length = L.length) (hw : wr L ks = n) : m__law_is_writing [lotsV L, .int n, row ks] = .ok (.bl true) := by
  have t1 : fIsB "tuple" (row ks) = .ok (.bl true) := (rfl)
  have t2 : fLen [row ks] = .ok (.int L.length) := by show Res.ok (Val.int ((natsV ks).length : Nat)) = _; rw [natsV_len, hk]
  have t3 : fLen [lotsV L] = .ok (.int L.length) := by show Res.ok (Val.int ((natsV L).length : Nat)) = _; rw [natsV_len]
  have t4 : vIter (row ks) = .ok (natsV ks) := (rfl)
  have t5 : lcM l__law_is_writing_1 (natsV ks) = .ok [] := lcW ks
  have t6 : oNe (.lst []) (.lst []) = .ok (.bl false) := (rfl)
  have t7 : vZip [lotsV L, row ks] = .ok (zipV (natsV L) (natsV ks)) := (rfl)
  have t9 : oNe (.int L.length) (.int L.length) = .ok (.bl false) := by rw [qNeI, beq_self_eq_true]; rfl
  obtain ⟨ns, e, s, l⟩ := zip_loop hk (fun a m => (h.pos a m).2) fun k m => by
    have := wr_le hk (fun a m => (h.pos a m).1) k m
    omega
  have e : mapM' l__law_is_writing_2 (zipV (natsV L) (natsV ks)) = .ok (natsV ns) := e
  have t8 : fSum [.lst (natsV ns)] = .ok (.int n) := by
    show (match intsV (natsV ns) with | some ns => Res.ok (Val.int ns.sum) | none => .stuck) = _
    rw [natsV_ints]
    show Res.ok (Val.int ((ns.map fun n : Nat => (n : Int)).sum)) = _
    rw [sum_cast, s, hw]
  have t10 : vLst [] = .ok (.lst []) := (rfl)
  have t11 : vLst (natsV ns) = .ok (.lst (natsV ns)) := qLst (by rw [natsV_len, l]; have := h.le; omega)
  rw [q__law_is_writing]
  unfold n__law_is_writing
  simp only [t1, Tv.qOk, Tv.qTru, t2, t3, t9, Tv.qBl, t4, t5, Tv.qNxOk, t6, t7, e, t8, t10, t11, Tv.qPure, Bool.not_true, Bool.false_eq_true, if_false, Tv.qEqI, beq_self_eq_true]
theorem in_nats (n : Nat) (xs : List Nat) : oInD (.int n) (.lst (natsV xs)) = .ok (.bl (decide (n ∈ xs))) := by
  have f : ∀ xs : List Nat, (natsV xs).all flatB = true := fun xs => List.all_eq_true.mpr fun v m => by
    obtain ⟨k, _, rfl⟩ := List.mem_map.mp m
    rfl
  have g : ∀ xs : List Nat, ((natsV xs).any fun y => eqB y (.int n)) = decide (n ∈ xs) := by
    intro xs
    induction xs with
    | nil => rfl
    | cons x xs ih =>
      show (((x : Int) == (n : Int)) || (natsV xs).any fun y => eqB y (.int n)) = _
      rw [ih]
      by_cases e : x = n
      · subst e; simp
      · have : ((x : Int) == (n : Int)) = false := beq_eq_false_iff_ne.mpr (by omega)
        rw [this, Bool.false_or, decide_eq_decide, List.mem_cons]
        exact ⟨.inr, fun z => z.elim (fun e' => absurd e'.symm e) id⟩
  show (inB (.int n) (natsV xs) >>= fun b => (.ok (.bl b) : Res Val)) = _
  unfold inB
  rw [show Tv.flatB (.int n) = true from rfl, f, Bool.true_and, if_pos rfl, g]
  rfl
theorem notin_nats (n : Nat) (xs : List Nat) : oNotInD (.int n) (.lst (natsV xs)) = .ok (.bl (!decide (n ∈ xs))) := by
  have h : (inB (.int n) (natsV xs) >>= fun b => (.ok (.bl b) : Res Val)) = .ok (.bl (decide (n ∈ xs))) := in_nats n xs
  show (inB (.int n) (natsV xs) >>= fun b => (.ok (.bl (!b)) : Res Val)) = _
  cases c : inB (.int n) (natsV xs) with
  | ok b => rw [c] at h; cases h; rfl
  | exn _ _ => rw [c] at h; cases h
  | stuck => rw [c] at h; cases h
theorem in_sums {L : List Nat} (h : Lots L) {n : Nat} (hn : n ≤ 60) : decide (n ∈ sumsN L) = rB L n := by
  unfold sumsN
  rw [Bool.eq_iff_iff, decide_eq_true_iff, List.mem_filter, List.mem_range]
  exact ⟨fun z => z.2, fun z => ⟨by omega, z⟩⟩
theorem Lots.rev {L : List Nat} (h : Lots L) : Lots L.reverse := ⟨by rw [List.length_reverse]; exact h.ne, by rw [List.length_reverse]; exact h.le, fun a m => h.pos a (List.mem_reverse.mp m)⟩
theorem rev_lots (L : List Nat) : oRev (lotsV L) = .ok (lotsV L.reverse) := by
  show Res.ok (Val.tup (natsV L).reverse) = .ok (Val.tup (natsV L.reverse))
  unfold natsV
  rw [List.map_reverse]
theorem rb_rev {L : List Nat} (h : Lots L) (n : Nat) : rB L.reverse n = rB L n := rB_perm L.reverse_perm (fun a m => (h.pos a (List.mem_reverse.mp m)).1) n
theorem rep2 (b : Bool) : ∃ s, fRepr [.lst [.bl b, .bl b]] = .ok (.str s) ∧ oNe (.str s) (.str s) = .ok (.bl false) := by
  cases b
  · exact ⟨(PyData.list [.bool false, .bool false]).shown, by kernel_rfl, by kernel_rfl⟩
  · exact ⟨(PyData.list [.bool true, .bool true]).shown, by kernel_rfl, by kernel_rfl⟩
theorem chk0 {zs : List Val} {q : Nat} (h : zs.length = q) : chkN 0 q [] zs = .ok () := by
  unfold chkN
  rw [if_pos ⟨rfl, h⟩]
theorem turn3 {L : List Nat} {n : Nat} {S : Cells} {k : Val} (h : Lots L) (p : Pail n S) : Go (l__law_right_3 (.cell n) (.lst (natsV (sumsN L))) (lotsV L) () k) S fun fl S' => fl = .nx () ∧ Pail n S' := by
  unfold l__law_right_3
  refine Go.bind (Go.bind (pull_go p (by decide) (by decide) fun d S1 h1 h2 p1 => ?_))
  obtain ⟨i, rfl⟩ := intN h1
  refine Go.of (a := .int ((1 + i : Nat) : Int)) (by rw [Tv.qAdd, Int.natCast_add]; rfl) ?_
  generalize hm : 1 + i = m
  have m1 : 1 ≤ m := by omega
  have m2 : m ≤ 60 := by omega
  have e1 := in_nats m (sumsN L)
  rw [in_sums h m2] at e1
  have e2 := triangles_give_eq h m1 (show m ≤ 1000 by omega)
  obtain ⟨s, e3, e4⟩ := rep2 (rB L m)
  have e5 : ∀ a b : Val, vLst [a, b] = .ok (.lst [a, b]) := fun _ _ => rfl
  have e6 : ∀ a b : Val, chkN 0 2 [] [a, b] = .ok () := fun _ _ => chk0 rfl
  have e7 : ∀ a b : Val, pickL .non [1, 0] [a, b] = [b, a] := fun _ _ => rfl
  simp only [e1, mOk, e2, e3, e4, e5, e6, e7, mPure, Tv.qOk, Tv.qBl, rev_lots, Bool.false_eq_true, if_false]
  rcases writing_eq h m1 (show m ≤ 1000 by omega) with ⟨c, ks, k1, k2, e8⟩ | ⟨c, e8⟩
  · rcases writing_eq h.rev m1 (show m ≤ 1000 by omega) with ⟨c', ks', k1', k2', e8'⟩ | ⟨c', e8'⟩
    · have st : ∀ ks : List Nat, l__law_right_2 (.bl true) () (row ks) = Mon.of (.ok (.nx ())) := fun ks => rfl
      simp only [c, e8, e8', mOk, mPure, e5, Tv.qItL, mForNx (st ks), mForNx (st ks'), mForNil, mNxL, mOrL, Tv.qTru, if_true, is_writing_eq h m2 k1 k2, Bool.not_true, Bool.false_eq_true, if_false]
      exact Go.pure ⟨rfl, p1⟩
    · rw [rb_rev h, c] at c'; cases c'
  · rcases writing_eq h.rev m1 (show m ≤ 1000 by omega) with ⟨c', ks', k1', k2', e8'⟩ | ⟨c', e8'⟩
    · rw [rb_rev h, c] at c'; cases c'
    · have st : l__law_right_2 (.bl false) () .non = Mon.of (.ok (.nx ())) := rfl
      simp only [c, e8, e8', mOk, mPure, e5, Tv.qItL, mForNx st, mForNil, mNxL, mOrL, Tv.qTru, Bool.false_eq_true, if_false]
      exact Go.pure ⟨rfl, p1⟩
end K47

/-! k47: the law -/
namespace K47
open PySem PySem.Spec PyProof.Rows L2 Tv

/-- the numbers up to 60 that L misses -/
def lostN (L : List Nat) : List Nat := ((List.range 60).map fun i => 1 + i).filter fun n => !rB L n
def headV : List Nat → Val
  | [] => .non
  | n :: _ => .int n
theorem lost_eq {L : List Nat} (h : Lots L) {S : Cells} {Q : List Val → Cells → Prop} (q : Q (natsV (lostN L)) S) : Go (lcM (l__law_right_1 (.lst (natsV (sumsN L)))) ((List.range 60).map fun i : Nat => Val.int ((1 + i : Nat) : Int))) S Q := by
  refine Go.lcP (f' := fun v => oNotInD v (.lst (natsV (sumsN L))) >>= vBl >>= fun t => if t = true then .ok (some v) else .ok none) (fun x => ?_) (ys := natsV (lostN L)) ?_ q
  · unfold l__law_right_1
    cases oNotInD x (.lst (natsV (sumsN L))) >>= vBl with
    | ok b => cases b <;> rfl
    | exn _ _ => rfl
    | stuck => rfl
  · have e1 : ((List.range 60).map fun i : Nat => Val.int ((1 + i : Nat) : Int)) = ((List.range 60).map fun i => 1 + i).map fun n : Nat => Val.int n := by rw [List.map_map]; rfl
    rw [e1]
    refine lcOf fun n hn => ?_
    obtain ⟨i, hi, rfl⟩ := List.mem_map.mp hn
    have hi := List.mem_range.mp hi
    rw [notin_nats, Tv.qOk, Tv.qBl, Tv.qOk, in_sums h (by omega)]
    cases rB L (1 + i) <;> rfl
/-- the least of the five tells the least of all -/
theorem least_head {L : List Nat} (h : Lots L) : natV (leastN L T5) = headV (lostN L) ∧ ((leastN L T5).isNone = true ↔ lostN L = []) := by
  have hp : ∀ a ∈ L, 0 < a := fun a m => (h.pos a m).1
  have nR : ∀ {n : Nat}, rB L n = false ↔ ¬ R L n := fun {n} => by
    rw [← rB_iff h]; cases rB L n <;> simp
  have five : ∀ ts : List Nat, (∀ t ∈ ts, rB L t = true) → leastN L ts = none := by
    intro ts
    induction ts with
    | nil => exact fun _ => rfl
    | cons t ts ih =>
      intro h
      unfold leastN
      rw [if_pos (h t List.mem_cons_self)]
      exact ih fun u m => h u (List.mem_cons_of_mem _ m)
  rcases least L hp with ⟨t, ht, h1, h2⟩ | hall
  · have ht60 : 1 ≤ t ∧ t ≤ 8 := by
      have : ∀ t ∈ [1, 2, 4, 5, 8], 1 ≤ t ∧ t ≤ 8 := by decide
      exact this t ht
    have low : ∀ n, 1 ≤ n → n < t → rB L n = true := fun n a b => of_rB hp (h2 n a b)
    have hit : rB L t = false := nR.mpr h1
    have e1 : leastN L T5 = some t := by
      have key : ∀ ts : List Nat, ts.Pairwise (· < ·) → (∀ u ∈ ts, 1 ≤ u) → t ∈ ts → leastN L ts = some t := by
        intro ts
        induction ts with
        | nil => exact fun _ _ m => nomatch m
        | cons u ts ih =>
          intro hs h1 m
          obtain ⟨g1, g2⟩ := List.pairwise_cons.mp hs
          unfold leastN
          by_cases e : u = t
          · subst e; rw [if_neg (by rw [hit]; exact Bool.false_ne_true)]
          · have m' : t ∈ ts := (List.mem_cons.mp m).elim (fun z => absurd z.symm e) id
            rw [if_pos (low u (h1 u List.mem_cons_self) (g1 t m'))]
            exact ih g2 (fun v hv => h1 v (List.mem_cons_of_mem _ hv)) m'
      exact key T5 (by decide) (by decide) ht
    have e2 : ∃ r, lostN L = t :: r := by
      have key : ∀ (k i : Nat), i + k = t - 1 → ∃ r, (((List.range' i (60 - i)).map fun i => 1 + i).filter fun n => !rB L n) = t :: r := by
        intro k
        induction k with
        | zero =>
          intro i e
          have e60 : 60 - i = (59 - i) + 1 := by omega
          rw [e60, List.range'_succ, List.map_cons, List.filter_cons_of_pos (by rw [show 1 + i = t from by omega, hit]; rfl), show 1 + i = t from by omega]
          exact ⟨_, rfl⟩
        | succ k ih =>
          intro i e
          have e60 : 60 - i = (60 - (i + 1)) + 1 := by omega
          rw [e60, List.range'_succ, List.map_cons, List.filter_cons_of_neg (by rw [low (1 + i) (by omega) (by omega)]; exact Bool.false_ne_true)]
          exact ih (i + 1) (by omega)
      have := key (t - 1) 0 (by omega)
      rw [← List.range_eq_range'] at this
      exact this
    obtain ⟨r, e2⟩ := e2
    rw [e1, e2]
    exact ⟨rfl, by simp⟩
  · have e1 : leastN L T5 = none := five T5 fun t ht => of_rB hp (hall t ((by decide : ∀ t ∈ T5, 1 ≤ t) t ht) ((by decide : ∀ t ∈ T5, t ≤ 60) t ht))
    have e2 : lostN L = [] := by
      unfold lostN
      refine List.filter_eq_nil_iff.mpr fun n hn => ?_
      obtain ⟨i, hi, rfl⟩ := List.mem_map.mp hn
      have hi := List.mem_range.mp hi
      rw [of_rB hp (hall (1 + i) (by omega) (by omega))]
      exact Bool.false_ne_true
    rw [e1, e2]
    exact ⟨rfl, by simp⟩
theorem leastN_mem {L : List Nat} : ∀ {ts : List Nat} {t : Nat}, leastN L ts = some t → t ∈ ts
  | u :: ts, t, h => by
    unfold leastN at h
    split at h
    · exact List.mem_cons_of_mem _ (leastN_mem h)
    · cases h; exact List.mem_cons_self
theorem leastN_rev {L : List Nat} (h : Lots L) : ∀ ts : List Nat, leastN L.reverse ts = leastN L ts
  | [] => rfl
  | t :: ts => by unfold leastN; rw [rb_rev h, leastN_rev h ts]
/-- told and due, written out -/
def toldV (o : Option Nat) : Val := .lst [natV o, natV o, .bl o.isNone, .bl o.isNone]
theorem rep4 {o : Option Nat} (h : ∀ t, o = some t → t ∈ T5) : ∃ s, fRepr [toldV o] = .ok (.str s) ∧ oNe (.str s) (.str s) = .ok (.bl false) := by
  have key : ∀ o : Option Nat, o ∈ [none, some 1, some 2, some 4, some 5, some 8] → ∃ s, fRepr [toldV o] = .ok (.str s) ∧ oNe (.str s) (.str s) = .ok (.bl false) := by
    intro o m
    simp only [List.mem_cons, List.not_mem_nil, or_false] at m
    rcases m with rfl | rfl | rfl | rfl | rfl | rfl
    · exact ⟨(PyData.list [.none, .none, .bool true, .bool true]).shown, by kernel_rfl, by kernel_rfl⟩
    · exact ⟨(PyData.list [.int 1, .int 1, .bool false, .bool false]).shown, by kernel_rfl, by kernel_rfl⟩
    · exact ⟨(PyData.list [.int 2, .int 2, .bool false, .bool false]).shown, by kernel_rfl, by kernel_rfl⟩
    · exact ⟨(PyData.list [.int 4, .int 4, .bool false, .bool false]).shown, by kernel_rfl, by kernel_rfl⟩
    · exact ⟨(PyData.list [.int 5, .int 5, .bool false, .bool false]).shown, by kernel_rfl, by kernel_rfl⟩
    · exact ⟨(PyData.list [.int 8, .int 8, .bool false, .bool false]).shown, by kernel_rfl, by kernel_rfl⟩
  refine key o ?_
  cases o with
  | none => simp
  | some t =>
    have := h t rfl
    simp only [T5, List.mem_cons, List.not_mem_nil, or_false] at this
    rcases this with rfl | rfl | rfl | rfl | rfl <;> simp
theorem eq_nil (xs : List Nat) : oEq (.lst (natsV xs)) (.lst []) = .ok (.bl (decide (xs = []))) ∧ oNe (.lst (natsV xs)) (.lst []) = .ok (.bl (!decide (xs = []))) := by
  have h1 : dtB 1 (.lst (natsV xs)) = true := dtB_lst fun x m => by
    obtain ⟨n, _, rfl⟩ := List.mem_map.mp m
    exact dtB_int _ _
  have h2 : dtB 1 (.lst []) = true := rfl
  have h := eqT_ok h1 h2 (by decide) (by decide)
  have e : Tv.eqT (.lst (natsV xs)) (.lst []) = decide (xs = []) := by
    unfold Tv.eqT
    cases xs with
    | nil => rfl
    | cons x xs => rfl
  rwa [e] at h
theorem turn4 {n : Nat} {S : Cells} {k : Val} (p : Pail n S) : Go (l__law_right_4 (.cell n) () k) S fun fl S' => fl = .nx () ∧ Pail n S' := by
  unfold l__law_right_4
  refine Go.bind (lots_go p fun L S1 h p1 => ?_)
  have e1 : vRange2 [.int 1, .int 61] = .ok ((List.range 60).map fun i : Nat => Val.int ((1 + i : Nat) : Int)) := qRange2 (a := 1) (b := 61) (by decide) (by decide)
  have e2 : vRange1 [.int 8] = .ok (upto 8) := qRange1 (n := 8) (by decide)
  have l60 : (natsV (lostN L)).length ≤ 10000 := by
    rw [natsV_len]
    have := List.length_filter_le (fun n => !rB L n) ((List.range 60).map fun i => 1 + i)
    rw [List.length_map, List.length_range] at this
    have : (lostN L).length ≤ 60 := this
    omega
  rw [sums_eq h, mOk, e1, mOk]
  refine Go.bind (Go.bind (Go.nx (lost_eq h ?_)))
  rw [qLst l60]
  refine Go.of rfl ?_
  rw [e2, mOk]
  refine Go.forThen (Go.forU _ _ (fun x _ S pS => turn3 h pS) p1) fun S2 p2 => ?_
  obtain ⟨h1, h2⟩ := least_head h
  have c1 : ∀ a : Val, chkN 0 1 [] [a] = .ok () := fun _ => chk0 rfl
  have c2 : ∀ a : Val, pickL .non [0] [a] = [a] := fun _ => rfl
  have c3 : ∀ a b d : Val, vLst [a, b, d] = .ok (.lst [a, b, d]) := fun _ _ _ => rfl
  have c4 : ∀ a : Val, vLst [a] = .ok (.lst [a]) := fun _ => rfl
  have c5 : vLst [] = .ok (.lst []) := rfl
  have c6 : ∀ a b c d : Val, oAdd (.lst [a, b, c]) (.lst [d]) = .ok (.lst [a, b, c, d]) := fun _ _ _ _ => rfl
  have c7 : ∀ a : Val, oMul (.lst [a]) (.int 2) = .ok (.lst [a, a]) := fun _ => rfl
  have c8 : ∀ a b c d : Val, oAdd (.lst [a, b]) (.lst [c, d]) = .ok (.lst [a, b, c, d]) := fun _ _ _ _ => rfl
  obtain ⟨e3, e4⟩ := eq_nil (lostN L)
  have e5 : (Mon.of (oNe (.lst (natsV (lostN L))) (.lst []) >>= vBl) >>= fun t => if t = true then ixM (.lst (natsV (lostN L))) (.int 0) else Pure.pure .non : M Val) = Pure.pure (natV (leastN L T5)) := by
    rw [e4, Tv.qOk, Tv.qBl, mOk, h1]
    cases c : lostN L with
    | nil => rfl
    | cons n r =>
      have e0 : ixV (natsV (n :: r)) ((0 : Nat) : Int) = .ok (.int n) := qIx rfl
      show (fun S => (ixV (natsV (n :: r)) ((0 : Nat) : Int), S) : M Val) = _
      rw [e0]
      rfl
  obtain ⟨s, r1, r2⟩ := rep4 (o := leastN L T5) fun t e => leastN_mem e
  unfold toldV at r1
  have e6 : decide (lostN L = []) = (leastN L T5).isNone := by
    rw [Bool.eq_iff_iff, decide_eq_true_iff]; exact h2.symm
  simp only [c5, mOk, e5, mPure, least_missed_eq h, rev_lots, c1, c2, least_missed_eq h.rev, leastN_rev h, triangles_all_eq h, c3, c4, c6, c7, c8, e3, e6, r1, r2, Tv.qOk, Tv.qBl, Bool.false_eq_true, if_false]
  exact Go.pure ⟨rfl, p2⟩
theorem right_go {n : Nat} {S : Cells} (p : Pail n S) : Go (m__law_right [.cell n]) S fun v _ => v = .bl true := by
  have e2 : vRange1 [.int 3] = .ok (upto 3) := qRange1 (n := 3) (by decide)
  rw [q__law_right]
  unfold n__law_right
  rw [e2, mOk]
  exact Go.forThen (Go.forU _ _ (fun x _ S pS => turn4 pS) p) fun S2 p2 => Go.pure rfl
theorem law_true (ns : List Int) (hl : ns.length ≤ 63) : ∃ S', Mon.run (m_law [.scr (ns.map .int)]) [] = (.ok (.bl true), S') := by
  have l1 : fLen [.scr (ns.map Val.int)] = .ok (.int ns.length) := by rw [qLenS, List.length_map]
  refine Go.run (Q := fun v _ => v = .bl true) ?_ fun _ _ h => h
  rw [q_law]
  unfold n_law
  have k : ∃ k : Nat, (fMin [.int ns.length, .int 4] >>= fun x => fMax [.int 2, x]) = .ok (.int k) ∧ k ≤ 4 := by
    have e : ∀ i j : Int, fMin [.int i, .int j] = .ok (.int (if j < i then j else i)) := fun _ _ => rfl
    have e' : ∀ i j : Int, fMax [.int i, .int j] = .ok (.int (if j > i then j else i)) := fun _ _ => rfl
    rw [e, Tv.qOk, e']
    refine ⟨max 2 (min ns.length 4), ?_, by omega⟩
    congr 2
    split <;> split <;> omega
  obtain ⟨k, ek, hk⟩ := k
  have em : ∃ x, fMin [.int ns.length, .int 4] = .ok x ∧ fMax [.int 2, x] = .ok (.int k) := by
    cases c : fMin [.int ns.length, .int 4] with
    | ok x => rw [c, Tv.qOk] at ek; exact ⟨x, rfl, ek⟩
    | exn _ _ => rw [c] at ek; cases ek
    | stuck => rw [c] at ek; cases ek
  obtain ⟨x, e1, e2⟩ := em
  have e3 : vRange1 [.int k] = .ok (upto k) := qRange1 (by omega)
  simp only [l1, mOk, mPure, e1, e2, e3]
  refine Go.bind (Go.bind (Go.bind (Go.nx (Go.mono (Go.mapOn (R := fun v => v = .bl true) (P := fun _ => True) _ _ ?_ trivial) ?_))))
  · intro x hx S _
    obtain ⟨i, hi, rfl⟩ := List.mem_map.mp hx
    have hi := List.mem_range.mp hi
    unfold l_law_1
    refine Go.bind (Go.bind (pail_go hl (by omega) fun n S1 p1 => ?_))
    refine Go.pure ?_
    rw [q__law_quiet]
    unfold n__law_quiet
    refine Go.bind (Go.nx (Go.bind ((right_go p1).mono fun v S2 e => ?_)))
    subst e
    exact Go.pure (Go.pure ⟨rfl, trivial⟩)
  · rintro ys S1 ⟨⟨hy, hr⟩, _⟩
    have ey : ys = List.replicate k (.bl true) := by
      rw [List.eq_replicate_iff]
      refine ⟨?_, hr⟩
      rw [hy]; unfold upto; rw [List.length_map, List.length_range]
    refine Go.of (qLst (by rw [hy]; unfold upto; rw [List.length_map, List.length_range]; omega)) (Go.pure (Go.of (a := .bl true) ?_ rfl))
    subst ey
    have : k = 0 ∨ k = 1 ∨ k = 2 ∨ k = 3 ∨ k = 4 := by omega
    rcases this with rfl | rfl | rfl | rfl | rfl <;> rfl
end K47

section
set_option maxHeartbeats 4000000
/-! derivations, printed by gen.py -/
namespace K47
open PySem PySem.Spec PyProof.Rows L2 Tv
abbrev topS (i : Nat) : Stmt := PySem.Challenge.pw_fifteenforms_k47_whole_triangular_sums.main.body.getD i (.Pass ⟨0, 0, 0, 0⟩)
abbrev s__law_pull : Stmt := topS 27
abbrev s__law_drawn_lots : Stmt := topS 30
abbrev s__law_sums : Stmt := topS 28
abbrev s_is_integer : Stmt := topS 7
abbrev s_is_between : Stmt := topS 8
abbrev s_check_lots : Stmt := topS 16
abbrev s_check_number : Stmt := topS 14
abbrev s_triangles_for : Stmt := topS 17
abbrev s_ways_to : Stmt := topS 18
abbrev s_triangle_writing : Stmt := topS 24
abbrev s_do_give : Stmt := topS 19
abbrev s_first_lacking : Stmt := topS 20
abbrev s_least_triangle_missed : Stmt := topS 23
abbrev s_triangles_all : Stmt := topS 22
abbrev s__law_is_writing : Stmt := topS 29
abbrev s_triangles_give : Stmt := topS 21
abbrev s__law_right : Stmt := topS 31
abbrev s__law_quiet : Stmt := topS 32
abbrev s__law_pail : Stmt := topS 26
abbrev s_law : Stmt := topS 33
structure Fx (K : PySem.W.Frag) (mg : Str → Option Value) where
  z_divmod : mg "divmod" = none
  z_int : mg "int" = none
  a__law_pull : Addr
  d__law_pull : FuncData
  F__law_pull : FunD K "_law_pull" "_law_pull" (defArgs s__law_pull) (defBody s__law_pull) (defScope s__law_pull) [] [] a__law_pull d__law_pull
  g__law_pull : mg "_law_pull" = some (.ref a__law_pull)
  z_tuple : mg "tuple" = none
  z_range : mg "range" = none
  z_sorted : mg "sorted" = none
  z_set : mg "set" = none
  z_isinstance : mg "isinstance" = none
  z_bool : mg "bool" = none
  a_is_integer : Addr
  d_is_integer : FuncData
  F_is_integer : FunD K "is_integer" "is_integer" (defArgs s_is_integer) (defBody s_is_integer) (defScope s_is_integer) [] [] a_is_integer d_is_integer
  g_is_integer : mg "is_integer" = some (.ref a_is_integer)
  z_len : mg "len" = none
  u_MOST_LOTS : Value
  c_MOST_LOTS : mg "MOST_LOTS" = some u_MOST_LOTS
  r_MOST_LOTS : RelV (.int 6) u_MOST_LOTS
  a_is_between : Addr
  d_is_between : FuncData
  F_is_between : FunD K "is_between" "is_between" (defArgs s_is_between) (defBody s_is_between) (defScope s_is_between) [] [] a_is_between d_is_between
  g_is_between : mg "is_between" = some (.ref a_is_between)
  u_MOST_ENTRY : Value
  c_MOST_ENTRY : mg "MOST_ENTRY" = some u_MOST_ENTRY
  r_MOST_ENTRY : RelV (.int 1000) u_MOST_ENTRY
  z_enumerate : mg "enumerate" = none
  u_MOST_NUMBER : Value
  c_MOST_NUMBER : mg "MOST_NUMBER" = some u_MOST_NUMBER
  r_MOST_NUMBER : RelV (.int 1000) u_MOST_NUMBER
  a_triangles_for : Addr
  d_triangles_for : FuncData
  F_triangles_for : FunD K "triangles_for" "triangles_for" (defArgs s_triangles_for) (defBody s_triangles_for) (defScope s_triangles_for) [] [] a_triangles_for d_triangles_for
  g_triangles_for : mg "triangles_for" = some (.ref a_triangles_for)
  a_check_lots : Addr
  d_check_lots : FuncData
  F_check_lots : FunD K "check_lots" "check_lots" (defArgs s_check_lots) (defBody s_check_lots) (defScope s_check_lots) [] [] a_check_lots d_check_lots
  g_check_lots : mg "check_lots" = some (.ref a_check_lots)
  a_check_number : Addr
  d_check_number : FuncData
  F_check_number : FunD K "check_number" "check_number" (defArgs s_check_number) (defBody s_check_number) (defScope s_check_number) [] [] a_check_number d_check_number
  g_check_number : mg "check_number" = some (.ref a_check_number)
  a_ways_to : Addr
  d_ways_to : FuncData
  F_ways_to : FunD K "ways_to" "ways_to" (defArgs s_ways_to) (defBody s_ways_to) (defScope s_ways_to) [] [] a_ways_to d_ways_to
  g_ways_to : mg "ways_to" = some (.ref a_ways_to)
  a_do_give : Addr
  d_do_give : FuncData
  F_do_give : FunD K "do_give" "do_give" (defArgs s_do_give) (defBody s_do_give) (defScope s_do_give) [] [] a_do_give d_do_give
  g_do_give : mg "do_give" = some (.ref a_do_give)
  a_TRIANGLES : Addr
  c_TRIANGLES : mg "TRIANGLES" = some (.ref a_TRIANGLES)
  q_TRIANGLES : ∀ H, SqT K H a_TRIANGLES (List.map V.int [1, 2, 4, 5, 8])
  a_first_lacking : Addr
  d_first_lacking : FuncData
  F_first_lacking : FunD K "first_lacking" "first_lacking" (defArgs s_first_lacking) (defBody s_first_lacking) (defScope s_first_lacking) [] [] a_first_lacking d_first_lacking
  g_first_lacking : mg "first_lacking" = some (.ref a_first_lacking)
  z_sum : mg "sum" = none
  z_zip : mg "zip" = none
  a__law_drawn_lots : Addr
  d__law_drawn_lots : FuncData
  F__law_drawn_lots : FunD K "_law_drawn_lots" "_law_drawn_lots" (defArgs s__law_drawn_lots) (defBody s__law_drawn_lots) (defScope s__law_drawn_lots) [] [] a__law_drawn_lots d__law_drawn_lots
  g__law_drawn_lots : mg "_law_drawn_lots" = some (.ref a__law_drawn_lots)
  a__law_sums : Addr
  d__law_sums : FuncData
  F__law_sums : FunD K "_law_sums" "_law_sums" (defArgs s__law_sums) (defBody s__law_sums) (defScope s__law_sums) [] [] a__law_sums d__law_sums
  g__law_sums : mg "_law_sums" = some (.ref a__law_sums)
  z_repr : mg "repr" = none
  a_triangles_give : Addr
  d_triangles_give : FuncData
  F_triangles_give : FunD K "triangles_give" "triangles_give" (defArgs s_triangles_give) (defBody s_triangles_give) (defScope s_triangles_give) [] [] a_triangles_give d_triangles_give
  g_triangles_give : mg "triangles_give" = some (.ref a_triangles_give)
  a_triangle_writing : Addr
  d_triangle_writing : FuncData
  F_triangle_writing : FunD K "triangle_writing" "triangle_writing" (defArgs s_triangle_writing) (defBody s_triangle_writing) (defScope s_triangle_writing) [] [] a_triangle_writing d_triangle_writing
  g_triangle_writing : mg "triangle_writing" = some (.ref a_triangle_writing)
  a__law_is_writing : Addr
  d__law_is_writing : FuncData
  F__law_is_writing : FunD K "_law_is_writing" "_law_is_writing" (defArgs s__law_is_writing) (defBody s__law_is_writing) (defScope s__law_is_writing) [] [] a__law_is_writing d__law_is_writing
  g__law_is_writing : mg "_law_is_writing" = some (.ref a__law_is_writing)
  a_triangles_all : Addr
  d_triangles_all : FuncData
  F_triangles_all : FunD K "triangles_all" "triangles_all" (defArgs s_triangles_all) (defBody s_triangles_all) (defScope s_triangles_all) [] [] a_triangles_all d_triangles_all
  g_triangles_all : mg "triangles_all" = some (.ref a_triangles_all)
  a_least_triangle_missed : Addr
  d_least_triangle_missed : FuncData
  F_least_triangle_missed : FunD K "least_triangle_missed" "least_triangle_missed" (defArgs s_least_triangle_missed) (defBody s_least_triangle_missed) (defScope s_least_triangle_missed) [] [] a_least_triangle_missed d_least_triangle_missed
  g_least_triangle_missed : mg "least_triangle_missed" = some (.ref a_least_triangle_missed)
  a__law_right : Addr
  d__law_right : FuncData
  F__law_right : FunD K "_law_right" "_law_right" (defArgs s__law_right) (defBody s__law_right) (defScope s__law_right) [] [] a__law_right d__law_right
  g__law_right : mg "_law_right" = some (.ref a__law_right)
  z_abs : mg "abs" = none
  z_all : mg "all" = none
  z_max : mg "max" = none
  z_min : mg "min" = none
  a__law_quiet : Addr
  d__law_quiet : FuncData
  F__law_quiet : FunD K "_law_quiet" "_law_quiet" (defArgs s__law_quiet) (defBody s__law_quiet) (defScope s__law_quiet) [] [] a__law_quiet d__law_quiet
  g__law_quiet : mg "_law_quiet" = some (.ref a__law_quiet)
  a__law_pail : Addr
  d__law_pail : FuncData
  F__law_pail : FunD K "_law_pail" "_law_pail" (defArgs s__law_pail) (defBody s__law_pail) (defScope s__law_pail) [] [] a__law_pail d__law_pail
  g__law_pail : mg "_law_pail" = some (.ref a__law_pail)
  a_law : Addr
  d_law : FuncData
  F_law : FunD K "law" "law" (defArgs s_law) (defBody s_law) (defScope s_law) [] [] a_law d_law
  g_law : mg "law" = some (.ref a_law)
section
variable {P : Program} {w : World} {K : PySem.W.Frag} {mg : Str → Option Value} {base : Heap}
theorem bt_abs : bootBuiltins "abs" = some (.builtin "abs") := by decide +kernel
theorem bt_all : bootBuiltins "all" = some (.builtin "all") := by decide +kernel
theorem bt_divmod : bootBuiltins "divmod" = some (.builtin "divmod") := by decide +kernel
theorem bt_int : bootBuiltins "int" = some (.type "int") := by decide +kernel
theorem bt_len : bootBuiltins "len" = some (.builtin "len") := by decide +kernel
theorem bt_max : bootBuiltins "max" = some (.builtin "max") := by decide +kernel
theorem bt_min : bootBuiltins "min" = some (.builtin "min") := by decide +kernel
theorem bt_repr : bootBuiltins "repr" = some (.builtin "repr") := by decide +kernel
theorem bt_sorted : bootBuiltins "sorted" = some (.builtin "sorted") := by decide +kernel
theorem bt_sum : bootBuiltins "sum" = some (.builtin "sum") := by decide +kernel
theorem bt_tuple : bootBuiltins "tuple" = some (.type "tuple") := by decide +kernel
theorem repK {mg : Str → Option Value} {κ : List Addr} {G : Hp} {a : Addr} {ns : List Int} (h : ∀ H, SqT K H a (ns.map V.int)) : Rep K mg κ G (.tup (ns.map Val.int)) (.ref a) := by unfold Rep; exact ⟨_, _, rfl, h _, rep_ints ns⟩
theorem b__law_pull (T : Fx K mg) : Binds K T.d__law_pull ["pail", "many"] [] := T.F__law_pull.bindsN fun _ _ _ _ _ _ us hl => match us, hl with | [_, _], _ => rfl
theorem b__law_drawn_lots (T : Fx K mg) : Binds K T.d__law_drawn_lots ["pail"] [] := T.F__law_drawn_lots.bindsN fun _ _ _ _ _ _ us hl => match us, hl with | [_], _ => rfl
theorem b__law_sums (T : Fx K mg) : Binds K T.d__law_sums ["lots_here", "most"] [] := T.F__law_sums.bindsN fun _ _ _ _ _ _ us hl => match us, hl with | [_, _], _ => rfl
theorem b_is_integer (T : Fx K mg) : Binds K T.d_is_integer ["value"] [] := T.F_is_integer.bindsN fun _ _ _ _ _ _ us hl => match us, hl with | [_], _ => rfl
theorem b_is_between (T : Fx K mg) : Binds K T.d_is_between ["value", "low", "high"] [] := T.F_is_between.bindsN fun _ _ _ _ _ _ us hl => match us, hl with | [_, _, _], _ => rfl
theorem b_check_lots (T : Fx K mg) : Binds K T.d_check_lots ["lots"] [] := T.F_check_lots.bindsN fun _ _ _ _ _ _ us hl => match us, hl with | [_], _ => rfl
theorem b_check_number (T : Fx K mg) : Binds K T.d_check_number ["value"] [] := T.F_check_number.bindsN fun _ _ _ _ _ _ us hl => match us, hl with | [_], _ => rfl
theorem b_triangles_for (T : Fx K mg) : Binds K T.d_triangles_for ["lot", "number"] [] := T.F_triangles_for.bindsN fun _ _ _ _ _ _ us hl => match us, hl with | [_, _], _ => rfl
theorem b_ways_to (T : Fx K mg) : Binds K T.d_ways_to ["lots", "number"] [] := T.F_ways_to.bindsN fun _ _ _ _ _ _ us hl => match us, hl with | [_, _], _ => rfl
theorem b_triangle_writing (T : Fx K mg) : Binds K T.d_triangle_writing ["lots", "number"] [] := T.F_triangle_writing.bindsN fun _ _ _ _ _ _ us hl => match us, hl with | [_, _], _ => rfl
theorem b_do_give (T : Fx K mg) : Binds K T.d_do_give ["lots", "number"] [] := T.F_do_give.bindsN fun _ _ _ _ _ _ us hl => match us, hl with | [_, _], _ => rfl
theorem b_first_lacking (T : Fx K mg) : Binds K T.d_first_lacking ["lots"] [] := T.F_first_lacking.bindsN fun _ _ _ _ _ _ us hl => match us, hl with | [_], _ => rfl
theorem b_least_triangle_missed (T : Fx K mg) : Binds K T.d_least_triangle_missed ["lots"] [] := T.F_least_triangle_missed.bindsN fun _ _ _ _ _ _ us hl => match us, hl with | [_], _ => rfl
theorem b_triangles_all (T : Fx K mg) : Binds K T.d_triangles_all ["lots"] [] := T.F_triangles_all.bindsN fun _ _ _ _ _ _ us hl => match us, hl with | [_], _ => rfl
theorem b__law_is_writing (T : Fx K mg) : Binds K T.d__law_is_writing ["lots_here", "number_here", "told"] [] := T.F__law_is_writing.bindsN fun _ _ _ _ _ _ us hl => match us, hl with | [_, _, _], _ => rfl
theorem b_triangles_give (T : Fx K mg) : Binds K T.d_triangles_give ["lots", "number"] [] := T.F_triangles_give.bindsN fun _ _ _ _ _ _ us hl => match us, hl with | [_, _], _ => rfl
theorem b__law_right (T : Fx K mg) : Binds K T.d__law_right ["pail"] [] := T.F__law_right.bindsN fun _ _ _ _ _ _ us hl => match us, hl with | [_], _ => rfl
theorem b__law_quiet (T : Fx K mg) : Binds K T.d__law_quiet ["pail"] [] := T.F__law_quiet.bindsN fun _ _ _ _ _ _ us hl => match us, hl with | [_], _ => rfl
theorem b__law_pail (T : Fx K mg) : Binds K T.d__law_pail ["script", "turn"] [] := T.F__law_pail.bindsN fun _ _ _ _ _ _ us hl => match us, hl with | [_, _], _ => rfl
theorem b_law (T : Fx K mg) : Binds K T.d_law ["script"] [] := T.F_law.bindsN fun _ _ _ _ _ _ us hl => match us, hl with | [_], _ => rfl
theorem kb_triangles_give_0_number_lots (T : Fx K mg) : KwB K T.d_triangles_give ["lots", "number"] ["number", "lots"] 0 [1, 0] := kwB_of T.F_triangles_give fun _ _ _ _ _ _ us ws h1 h2 => match us, ws, h1, h2 with | [], [_, _], _, _ => rfl
theorem kb_triangle_writing_0_number_lots (T : Fx K mg) : KwB K T.d_triangle_writing ["lots", "number"] ["number", "lots"] 0 [1, 0] := kwB_of T.F_triangle_writing fun _ _ _ _ _ _ us ws h1 h2 => match us, ws, h1, h2 with | [], [_, _], _, _ => rfl
theorem kb_least_triangle_missed_0_lots (T : Fx K mg) : KwB K T.d_least_triangle_missed ["lots"] ["lots"] 0 [0] := kwB_of T.F_least_triangle_missed fun _ _ _ _ _ _ us ws h1 h2 => match us, ws, h1, h2 with | [], [_], _, _ => rfl
theorem kb_triangles_all_0_lots (T : Fx K mg) : KwB K T.d_triangles_all ["lots"] ["lots"] 0 [0] := kwB_of T.F_triangles_all fun _ _ _ _ _ _ us ws h1 h2 => match us, ws, h1, h2 with | [], [_], _, _ => rfl
abbrev N__law_pull : List Str := ["pail", "many", "digit"]
theorem sc__law_pull : FnScope N__law_pull ["pail", "many"] (defScope s__law_pull) := ⟨rfl, rfl, rfl, by decide +kernel, rfl, by decide +kernel, by decide +kernel⟩
theorem nm__law_pull_0 : Nm N__law_pull (defScope s__law_pull) 0 "pail" := ⟨by decide +kernel⟩
theorem nm__law_pull_1 : Nm N__law_pull (defScope s__law_pull) 1 "many" := ⟨by decide +kernel⟩
theorem gl__law_pull_divmod : glB (defScope s__law_pull) "divmod" = true := by decide +kernel
theorem nm__law_pull_2 : Nm N__law_pull (defScope s__law_pull) 2 "digit" := ⟨by decide +kernel⟩
theorem lk__law_pull_2 : Lk N__law_pull (defScope s__law_pull) 2 "digit" := ⟨by decide +kernel⟩
theorem gl__law_pull_int : glB (defScope s__law_pull) "int" = true := by decide +kernel
theorem g__law_pull (T : Fx K mg) : FnG P w K mg base 1 T.a__law_pull T.d__law_pull ["pail", "many"] m__law_pull := okG T.F__law_pull sc__law_pull (fun xs h => match xs, h with | [], _ => rfl | [_], _ => rfl | [_, _], h => absurd rfl h | _ :: _ :: _ :: _, _ => rfl) fun cdv A outer s H E xs c hl => match xs, hl with | [a_pail, a_many], _ => (sx_if (et_cmp o_gt (ev_ixM (fun _ _ => rfl) (ev_var c.toCtx 0 nm__law_pull_0) ev_int) ev_int) (sx_asgCN c 2 lk__law_pull_2 (Nat.le_of_ble_eq_true rfl) (ev_blt c.toCtx f_divmod gl__law_pull_divmod T.z_divmod bt_divmod (ea_cons (ev_ixM (fun _ _ => rfl) (ev_var c.toCtx 0 nm__law_pull_0) ev_int) (ea_cons (ev_var c.toCtx 1 nm__law_pull_1) ea_nil))) (ev_var c.toCtx 0 nm__law_pull_0) ev_int (fun v_digit15 => (sx_ret' (ev_var c.toCtx 2 nm__law_pull_2))) rfl rfl rfl rfl rfl rfl (fun _ => rfl)) (sx_pop (sx_setC (ev_bin o_add (ev_ixM (fun _ _ => rfl) (ev_var c.toCtx 0 nm__law_pull_0) ev_int) ev_int) (ev_var c.toCtx 0 nm__law_pull_0) ev_int (sx_setC (ev_bin o_mod (ev_bty c.toCtx f_int gl__law_pull_int T.z_int bt_int (ea_cons (ev_bin o_add (ev_bin o_mul (ev_ixM (fun _ _ => rfl) (ev_var c.toCtx 0 nm__law_pull_0) ev_int) ev_int) (ev_bin o_mul ev_int (ev_ixM (fun _ _ => rfl) (ev_var c.toCtx 0 nm__law_pull_0) ev_int))) ea_nil)) ev_int) (ev_var c.toCtx 0 nm__law_pull_0) ev_int (sx_ret' (ev_bin o_mod (ev_bty c.toCtx f_int gl__law_pull_int T.z_int bt_int (ea_cons (ev_bin o_fdiv (ev_ixM (fun _ _ => rfl) (ev_var c.toCtx 0 nm__law_pull_0) ev_int) ev_int) ea_nil)) (ev_var c.toCtx 1 nm__law_pull_1))) rfl rfl rfl (fun _ => rfl)) rfl rfl rfl (fun _ => rfl))))
abbrev N__law_drawn_lots : List Str := ["pail", "menu", "k"]
theorem sc__law_drawn_lots : FnScope N__law_drawn_lots ["pail"] (defScope s__law_drawn_lots) := ⟨rfl, rfl, rfl, by decide +kernel, rfl, by decide +kernel, by decide +kernel⟩
theorem nm__law_drawn_lots_0 : Nm N__law_drawn_lots (defScope s__law_drawn_lots) 0 "pail" := ⟨by decide +kernel⟩
theorem gl__law_drawn_lots__law_pull : glB (defScope s__law_drawn_lots) "_law_pull" = true := by decide +kernel
theorem nm__law_drawn_lots_1 : Nm N__law_drawn_lots (defScope s__law_drawn_lots) 1 "menu" := ⟨by decide +kernel⟩
theorem gl__law_drawn_lots_range : glB (defScope s__law_drawn_lots) "range" = true := by decide +kernel
theorem gl__law_drawn_lots_tuple : glB (defScope s__law_drawn_lots) "tuple" = true := by decide +kernel
theorem lk__law_drawn_lots_1 : Lk N__law_drawn_lots (defScope s__law_drawn_lots) 1 "menu" := ⟨by decide +kernel⟩
theorem g__law_drawn_lots (T : Fx K mg) : FnG P w K mg base 2 T.a__law_drawn_lots T.d__law_drawn_lots ["pail"] m__law_drawn_lots := okG T.F__law_drawn_lots sc__law_drawn_lots (fun xs h => match xs, h with | [], _ => rfl | [_], h => absurd rfl h | _ :: _ :: _, _ => rfl) fun cdv A outer s H E xs c hl => match xs, hl with | [a_pail], _ => (sx_asg c 1 lk__law_drawn_lots_1 (Nat.le_of_ble_eq_true rfl) (ev_lst (ea_cons (ev_tup (ea_cons ev_int (ea_cons ev_int (ea_cons ev_int ea_nil)))) (ea_cons (ev_tup (ea_cons ev_int (ea_cons ev_int (ea_cons ev_int ea_nil)))) (ea_cons (ev_tup (ea_cons ev_int (ea_cons ev_int (ea_cons ev_int (ea_cons ev_int ea_nil))))) (ea_cons (ev_tup (ea_cons ev_int (ea_cons ev_int ea_nil))) (ea_cons (ev_tup (ea_cons ev_int (ea_cons ev_int (ea_cons ev_int ea_nil)))) (ea_cons (ev_tup (ea_cons ev_int (ea_cons ev_int (ea_cons ev_int ea_nil)))) (ea_cons (ev_tup (ea_cons ev_int (ea_cons ev_int (ea_cons ev_int (ea_cons ev_int ea_nil))))) (ea_cons (ev_tup (ea_cons ev_int (ea_cons ev_int (ea_cons ev_int ea_nil)))) (ea_cons (ev_tup (ea_cons ev_int (ea_cons ev_int (ea_cons ev_int ea_nil)))) (ea_cons (ev_tup (ea_cons ev_int (ea_cons ev_int (ea_cons ev_int ea_nil)))) ea_nil))))))))))) (fun v_menu94 => (sx_if (et_cmp (o_eq c.toCtx) (ev_call c.toCtx (g__law_pull T) (by decide) (b__law_pull T) gl__law_drawn_lots__law_pull T.g__law_pull T.F__law_pull.kp (ea_cons (ev_var c.toCtx 0 nm__law_drawn_lots_0) (ea_cons ev_int ea_nil))) ev_int) (sx_ret' (ev_ixM (fun _ _ => rfl) (ev_var c.toCtx 1 nm__law_drawn_lots_1) (ev_call c.toCtx (g__law_pull T) (by decide) (b__law_pull T) gl__law_drawn_lots__law_pull T.g__law_pull T.F__law_pull.kp (ea_cons (ev_var c.toCtx 0 nm__law_drawn_lots_0) (ea_cons ev_int ea_nil))))) (sx_pop (sx_ret' (ev_bty c.toCtx f_tuple gl__law_drawn_lots_tuple T.z_tuple bt_tuple (ea_cons (ev_lc c.toCtx (i := 2) (own := [("k", 2)]) (by decide +kernel) ⟨by decide +kernel⟩ (by decide) (Nat.le_of_ble_eq_true rfl) (wi_range1 c.toCtx gl__law_drawn_lots_range T.z_range (ea_cons (ev_bin o_add ev_int (ev_call c.toCtx (g__law_pull T) (by decide) (b__law_pull T) gl__law_drawn_lots__law_pull T.g__law_pull T.F__law_pull.kp (ea_cons (ev_var c.toCtx 0 nm__law_drawn_lots_0) (ea_cons ev_int ea_nil)))) ea_nil)) (fun v124 s_ H_ C_ cl_ fp_ => (ev_ixM (fun _ _ => rfl) (ev_lst (ea_cons ev_int (ea_cons ev_int (ea_cons ev_int (ea_cons ev_int (ea_cons ev_int (ea_cons ev_int (ea_cons ev_int (ea_cons ev_int ea_nil))))))))) (ev_call (c.toCtx.blk _ s_ H_ C_ cl_ fp_) (g__law_pull T) (by decide) (b__law_pull T) (by decide +kernel) T.g__law_pull T.F__law_pull.kp (ea_cons (ev_var (c.toCtx.blk _ s_ H_ C_ cl_ fp_) 0 ⟨by decide +kernel⟩) (ea_cons ev_int ea_nil)))))).1 ea_nil)))))))
abbrev N__law_sums : List Str := ["lots_here", "most", "found", "lot", "some", "fresh", "total", "k", "more"]
theorem sc__law_sums : FnScope N__law_sums ["lots_here", "most"] (defScope s__law_sums) := ⟨rfl, rfl, rfl, by decide +kernel, rfl, by decide +kernel, by decide +kernel⟩
theorem gl__law_sums_range : glB (defScope s__law_sums) "range" = true := by decide +kernel
theorem nm__law_sums_5 : Nm N__law_sums (defScope s__law_sums) 5 "fresh" := ⟨by decide +kernel⟩
theorem nm__law_sums_4 : Nm N__law_sums (defScope s__law_sums) 4 "some" := ⟨by decide +kernel⟩
theorem lk__law_sums_5 : Lk N__law_sums (defScope s__law_sums) 5 "fresh" := ⟨by decide +kernel⟩
theorem lk__law_sums_6 : Lk N__law_sums (defScope s__law_sums) 6 "total" := ⟨by decide +kernel⟩
theorem nm__law_sums_2 : Nm N__law_sums (defScope s__law_sums) 2 "found" := ⟨by decide +kernel⟩
theorem gl__law_sums_sorted : glB (defScope s__law_sums) "sorted" = true := by decide +kernel
theorem gl__law_sums_set : glB (defScope s__law_sums) "set" = true := by decide +kernel
theorem lk__law_sums_2 : Lk N__law_sums (defScope s__law_sums) 2 "found" := ⟨by decide +kernel⟩
theorem lc__law_sums_4 : Lc N__law_sums (defScope s__law_sums) 4 "some" := ⟨by decide +kernel⟩
theorem lk__law_sums_3 : Lk N__law_sums (defScope s__law_sums) 3 "lot" := ⟨by decide +kernel⟩
theorem nm__law_sums_0 : Nm N__law_sums (defScope s__law_sums) 0 "lots_here" := ⟨by decide +kernel⟩
theorem g__law_sums (T : Fx K mg) : FnG P w K mg base 1 T.a__law_sums T.d__law_sums ["lots_here", "most"] m__law_sums := okG T.F__law_sums sc__law_sums (fun xs h => match xs, h with | [], _ => rfl | [_], _ => rfl | [_, _], h => absurd rfl h | _ :: _ :: _ :: _, _ => rfl) fun cdv A outer s H E xs c hl => match xs, hl with | [a_lots_here, a_most], _ => (sx_asg c 2 lk__law_sums_2 (Nat.le_of_ble_eq_true rfl) (ev_lst (ea_cons ev_int ea_nil)) (fun v_found4 => (sx_then (st_only (st_for c.toCtx (τ := Val) (fun (st_ : Val) => ([.fz a_lots_here, .fz a_most, .fz st_, .un, .un, .un, .un, .un, .un] : Tv.Env)) id [] v_found4 rfl (wi_val (ev_var c.toCtx 0 nm__law_sums_0)) (fun st5 x6 => tb_name c 3 lk__law_sums_3 (Nat.le_of_ble_eq_true rfl) (sx_asgLc c 4 lc__law_sums_4 (Nat.le_of_ble_eq_true rfl) (ev_lc c.toCtx (i := 7) (own := [("k", 7)]) (by decide +kernel) ⟨by decide +kernel⟩ (by decide) (Nat.le_of_ble_eq_true rfl) (wi_range1 c.toCtx gl__law_sums_range T.z_range (ea_cons ev_int ea_nil)) (fun v12 s_ H_ C_ cl_ fp_ => (ev_bin o_fdiv (ev_bin o_mul (ev_bin o_mul (ev_var (c.toCtx.blk _ s_ H_ C_ cl_ fp_) 3 ⟨by decide +kernel⟩) (ev_var (c.toCtx.blk _ s_ H_ C_ cl_ fp_) 7 ⟨by decide +kernel⟩)) (ev_bin o_add (ev_var (c.toCtx.blk _ s_ H_ C_ cl_ fp_) 7 ⟨by decide +kernel⟩) ev_int)) ev_int))) (fun v_some21 => (sx_asg c 5 lk__law_sums_5 (Nat.le_of_ble_eq_true rfl) (ev_lst ea_nil) (fun v_fresh23 => (sx_then (st_only (st_for c.toCtx (τ := Val) (fun (st_ : Val) => ([.fz a_lots_here, .fz a_most, .fz st5, .fz x6, .fz v_some21, .fz st_, .un, .un, .un] : Tv.Env)) id [] v_fresh23 rfl (wi_val (ev_var c.toCtx 2 nm__law_sums_2)) (fun st24 x25 => tb_name c 6 lk__law_sums_6 (Nat.le_of_ble_eq_true rfl) (sx_asg c 5 lk__law_sums_5 (Nat.le_of_ble_eq_true rfl) (ev_bin o_add (ev_var c.toCtx 5 nm__law_sums_5) (ev_lcif c.toCtx (i := 8) (own := [("more", 8)]) (by decide +kernel) ⟨by decide +kernel⟩ (by decide) (Nat.le_of_ble_eq_true rfl) (wi_val (ev_var c.toCtx 4 nm__law_sums_4)) (fun v29 s_ H_ C_ cl_ fp_ => (et_cmp o_le (ev_bin o_add (ev_var (c.toCtx.blk _ s_ H_ C_ cl_ fp_) 6 ⟨by decide +kernel⟩) (ev_var (c.toCtx.blk _ s_ H_ C_ cl_ fp_) 8 ⟨by decide +kernel⟩)) (ev_var (c.toCtx.blk _ s_ H_ C_ cl_ fp_) 1 ⟨by decide +kernel⟩))) (fun v29 s_ H_ C_ cl_ fp_ => (ev_bin o_add (ev_var (c.toCtx.blk _ s_ H_ C_ cl_ fp_) 6 ⟨by decide +kernel⟩) (ev_var (c.toCtx.blk _ s_ H_ C_ cl_ fp_) 8 ⟨by decide +kernel⟩)))).1) (fun v_fresh40 => (sx_endF [6] rfl rfl)))))) (fun st43 => (sx_asg c 2 lk__law_sums_2 (Nat.le_of_ble_eq_true rfl) (ev_sortedSet c.toCtx gl__law_sums_sorted T.z_sorted gl__law_sums_set T.z_set (ev_var c.toCtx 5 nm__law_sums_5)) (fun v_found45 => (sx_endF [3, 4, 5] rfl rfl)))))))) (by decide +kernel) (by decide +kernel) (by decide +kernel))))) (fun st48 => (sx_ret' (ev_var c.toCtx 2 nm__law_sums_2))))))
abbrev N_is_integer : List Str := ["value"]
theorem sc_is_integer : FnScope N_is_integer ["value"] (defScope s_is_integer) := ⟨rfl, rfl, rfl, by decide +kernel, rfl, by decide +kernel, by decide +kernel⟩
theorem nm_is_integer_0 : Nm N_is_integer (defScope s_is_integer) 0 "value" := ⟨by decide +kernel⟩
theorem gl_is_integer_isinstance : glB (defScope s_is_integer) "isinstance" = true := by decide +kernel
theorem gl_is_integer_int : glB (defScope s_is_integer) "int" = true := by decide +kernel
theorem gl_is_integer_bool : glB (defScope s_is_integer) "bool" = true := by decide +kernel
theorem g_is_integer (T : Fx K mg) : FnG P w K mg base 1 T.a_is_integer T.d_is_integer ["value"] m_is_integer := okG T.F_is_integer sc_is_integer (fun xs h => match xs, h with | [], _ => rfl | [_], h => absurd rfl h | _ :: _ :: _, _ => rfl) fun cdv A outer s H E xs c hl => match xs, hl with | [a_value], _ => (sx_ret' (ev_and (ev_isB c.toCtx gl_is_integer_isinstance T.z_isinstance gl_is_integer_int T.z_int PyProof.Rows.boot_int (by decide) (ev_var c.toCtx 0 nm_is_integer_0)) (ev_one (ev_not (ev_isB c.toCtx gl_is_integer_isinstance T.z_isinstance gl_is_integer_bool T.z_bool PyProof.Rows.boot_bool (by decide) (ev_var c.toCtx 0 nm_is_integer_0))))))
abbrev N_is_between : List Str := ["value", "low", "high"]
theorem sc_is_between : FnScope N_is_between ["value", "low", "high"] (defScope s_is_between) := ⟨rfl, rfl, rfl, by decide +kernel, rfl, by decide +kernel, by decide +kernel⟩
theorem nm_is_between_0 : Nm N_is_between (defScope s_is_between) 0 "value" := ⟨by decide +kernel⟩
theorem gl_is_between_is_integer : glB (defScope s_is_between) "is_integer" = true := by decide +kernel
theorem nm_is_between_1 : Nm N_is_between (defScope s_is_between) 1 "low" := ⟨by decide +kernel⟩
theorem nm_is_between_2 : Nm N_is_between (defScope s_is_between) 2 "high" := ⟨by decide +kernel⟩
theorem g_is_between (T : Fx K mg) : FnG P w K mg base 2 T.a_is_between T.d_is_between ["value", "low", "high"] m_is_between := okG T.F_is_between sc_is_between (fun xs h => match xs, h with | [], _ => rfl | [_], _ => rfl | [_, _], _ => rfl | [_, _, _], h => absurd rfl h | _ :: _ :: _ :: _ :: _, _ => rfl) fun cdv A outer s H E xs c hl => match xs, hl with | [a_value, a_low, a_high], _ => (sx_ret' (ev_and (ev_call c.toCtx (g_is_integer T) (by decide) (b_is_integer T) gl_is_between_is_integer T.g_is_integer T.F_is_integer.kp (ea_cons (ev_var c.toCtx 0 nm_is_between_0) ea_nil)) (ev_one (ev_chain o_le o_le (ev_var c.toCtx 1 nm_is_between_1) (ev_var c.toCtx 0 nm_is_between_0) (ev_var c.toCtx 2 nm_is_between_2)))))
abbrev N_check_lots : List Str := ["lots", "index", "lot"]
theorem sc_check_lots : FnScope N_check_lots ["lots"] (defScope s_check_lots) := ⟨rfl, rfl, rfl, by decide +kernel, rfl, by decide +kernel, by decide +kernel⟩
theorem nm_check_lots_0 : Nm N_check_lots (defScope s_check_lots) 0 "lots" := ⟨by decide +kernel⟩
theorem gl_check_lots_isinstance : glB (defScope s_check_lots) "isinstance" = true := by decide +kernel
theorem gl_check_lots_tuple : glB (defScope s_check_lots) "tuple" = true := by decide +kernel
theorem gl_check_lots_len : glB (defScope s_check_lots) "len" = true := by decide +kernel
theorem nm_check_lots_1 : Nm N_check_lots (defScope s_check_lots) 1 "index" := ⟨by decide +kernel⟩
theorem gl_check_lots_MOST_LOTS : glB (defScope s_check_lots) "MOST_LOTS" = true := by decide +kernel
theorem gl_check_lots_MOST_ENTRY : glB (defScope s_check_lots) "MOST_ENTRY" = true := by decide +kernel
theorem nm_check_lots_2 : Nm N_check_lots (defScope s_check_lots) 2 "lot" := ⟨by decide +kernel⟩
theorem gl_check_lots_is_between : glB (defScope s_check_lots) "is_between" = true := by decide +kernel
theorem lk_check_lots_1 : Lk N_check_lots (defScope s_check_lots) 1 "index" := ⟨by decide +kernel⟩
theorem lk_check_lots_2 : Lk N_check_lots (defScope s_check_lots) 2 "lot" := ⟨by decide +kernel⟩
theorem gl_check_lots_enumerate : glB (defScope s_check_lots) "enumerate" = true := by decide +kernel
theorem g_check_lots (T : Fx K mg) : FnG P w K mg base 3 T.a_check_lots T.d_check_lots ["lots"] m_check_lots := okG T.F_check_lots sc_check_lots (fun xs h => match xs, h with | [], _ => rfl | [_], h => absurd rfl h | _ :: _ :: _, _ => rfl) fun cdv A outer s H E xs c hl => match xs, hl with | [a_lots], _ => (sx_if (et_bool (ew_or (et_not (et_val (ev_isB c.toCtx gl_check_lots_isinstance T.z_isinstance gl_check_lots_tuple T.z_tuple PyProof.Rows.boot_tuple (by decide) (ev_var c.toCtx 0 nm_check_lots_0)))) (ew_or1 (et_cmp (o_eq c.toCtx) (ev_blt c.toCtx f_len gl_check_lots_len T.z_len bt_len (ea_cons (ev_var c.toCtx 0 nm_check_lots_0) ea_nil)) ev_int)))) sx_stuck (sx_pop (sx_then (st_only (st_for c.toCtx (τ := Val) (fun (st_ : Unit) => ([.fz a_lots, .un, .un] : Tv.Env)) id [] () rfl (wi_enum c.toCtx gl_check_lots_enumerate T.z_enumerate (ea_cons (ev_var c.toCtx 0 nm_check_lots_0) ea_nil)) (fun st11 x12 => tb_tup2 c 1 2 lk_check_lots_1 lk_check_lots_2 (Nat.le_of_ble_eq_true rfl) (Nat.le_of_ble_eq_true rfl) (fun v_index13 v_lot14 => (sx_if (et_bool (ew_or (et_cmp (o_eq c.toCtx) (ev_var c.toCtx 1 nm_check_lots_1) (ev_glob c.toCtx gl_check_lots_MOST_LOTS T.c_MOST_LOTS T.r_MOST_LOTS fun _ _ => repI _)) (ew_or1 (et_not (et_val (ev_call c.toCtx (g_is_between T) (by decide) (b_is_between T) gl_check_lots_is_between T.g_is_between T.F_is_between.kp (ea_cons (ev_var c.toCtx 2 nm_check_lots_2) (ea_cons ev_int (ea_cons (ev_glob c.toCtx gl_check_lots_MOST_ENTRY T.c_MOST_ENTRY T.r_MOST_ENTRY fun _ _ => repI _) ea_nil))))))))) sx_stuck (sx_pop (sx_endF [1, 2] rfl rfl))))))) (fun st32 => sx_endr))))
abbrev N_check_number : List Str := ["value"]
theorem sc_check_number : FnScope N_check_number ["value"] (defScope s_check_number) := ⟨rfl, rfl, rfl, by decide +kernel, rfl, by decide +kernel, by decide +kernel⟩
theorem gl_check_number_MOST_NUMBER : glB (defScope s_check_number) "MOST_NUMBER" = true := by decide +kernel
theorem nm_check_number_0 : Nm N_check_number (defScope s_check_number) 0 "value" := ⟨by decide +kernel⟩
theorem gl_check_number_is_between : glB (defScope s_check_number) "is_between" = true := by decide +kernel
theorem g_check_number (T : Fx K mg) : FnG P w K mg base 3 T.a_check_number T.d_check_number ["value"] m_check_number := okG T.F_check_number sc_check_number (fun xs h => match xs, h with | [], _ => rfl | [_], h => absurd rfl h | _ :: _ :: _, _ => rfl) fun cdv A outer s H E xs c hl => match xs, hl with | [a_value], _ => (sx_if (et_not (et_val (ev_call c.toCtx (g_is_between T) (by decide) (b_is_between T) gl_check_number_is_between T.g_is_between T.F_is_between.kp (ea_cons (ev_var c.toCtx 0 nm_check_number_0) (ea_cons ev_int (ea_cons (ev_glob c.toCtx gl_check_number_MOST_NUMBER T.c_MOST_NUMBER T.r_MOST_NUMBER fun _ _ => repI _) ea_nil)))))) sx_stuck (sx_pop sx_endr))
abbrev N_triangles_for : List Str := ["lot", "number", "found", "k"]
theorem sc_triangles_for : FnScope N_triangles_for ["lot", "number"] (defScope s_triangles_for) := ⟨rfl, rfl, rfl, by decide +kernel, rfl, by decide +kernel, by decide +kernel⟩
theorem nm_triangles_for_0 : Nm N_triangles_for (defScope s_triangles_for) 0 "lot" := ⟨by decide +kernel⟩
theorem nm_triangles_for_3 : Nm N_triangles_for (defScope s_triangles_for) 3 "k" := ⟨by decide +kernel⟩
theorem nm_triangles_for_1 : Nm N_triangles_for (defScope s_triangles_for) 1 "number" := ⟨by decide +kernel⟩
theorem lk_triangles_for_3 : Lk N_triangles_for (defScope s_triangles_for) 3 "k" := ⟨by decide +kernel⟩
theorem nm_triangles_for_2 : Nm N_triangles_for (defScope s_triangles_for) 2 "found" := ⟨by decide +kernel⟩
theorem lc_triangles_for_2 : Lc N_triangles_for (defScope s_triangles_for) 2 "found" := ⟨by decide +kernel⟩
theorem lc_triangles_for_3 : Lc N_triangles_for (defScope s_triangles_for) 3 "k" := ⟨by decide +kernel⟩
theorem g_triangles_for (T : Fx K mg) : FnG P w K mg base 1 T.a_triangles_for T.d_triangles_for ["lot", "number"] m_triangles_for := okG T.F_triangles_for sc_triangles_for (fun xs h => match xs, h with | [], _ => rfl | [_], _ => rfl | [_, _], h => absurd rfl h | _ :: _ :: _ :: _, _ => rfl) fun cdv A outer s H E xs c hl => match xs, hl with | [a_lot, a_number], _ => (sx_parO c.toCtx 2 3 lc_triangles_for_2 lc_triangles_for_3 (by decide) (Nat.le_of_ble_eq_true rfl) (Nat.le_of_ble_eq_true rfl) eo_nil ev_int (fun o1 v_k2 => (sx_then (st_only (st_while c.toCtx (τ := Val) (fun (st_ : List Val × Val) => ([.fz a_lot, .fz a_number, .o1 st_.1, .fz st_.2] : Tv.Env)) id [] (o1, v_k2) 5000 rfl (fun st3 => (et_cmp o_le (ev_bin o_mul (ev_var c.toCtx 0 nm_triangles_for_0) (ev_bin o_fdiv (ev_bin o_mul (ev_var c.toCtx 3 nm_triangles_for_3) (ev_bin o_add (ev_var c.toCtx 3 nm_triangles_for_3) ev_int)) ev_int)) (ev_var c.toCtx 1 nm_triangles_for_1))) (fun st3 => (sx_app c.toCtx 2 nm_triangles_for_2 rfl (ev_tup (ea_cons (ev_var c.toCtx 3 nm_triangles_for_3) (ea_cons (ev_bin o_mul (ev_var c.toCtx 0 nm_triangles_for_0) (ev_bin o_fdiv (ev_bin o_mul (ev_var c.toCtx 3 nm_triangles_for_3) (ev_bin o_add (ev_var c.toCtx 3 nm_triangles_for_3) ev_int)) ev_int)) ea_nil))) (fun x27 => (sx_augI c 3 ip_add lk_triangles_for_3 rfl (Nat.le_of_ble_eq_true rfl) ev_int (fun v_k29 => (sx_endF [] rfl rfl)))))))) (fun st30 => (sx_freeze 2 rfl (sx_ret' (ev_var c.toCtx 2 nm_triangles_for_2)))))) rfl rfl rfl)
abbrev N_ways_to : List Str := ["lots", "number", "found", "lot", "fresh", "value", "row", "k", "more"]
theorem sc_ways_to : FnScope N_ways_to ["lots", "number"] (defScope s_ways_to) := ⟨rfl, rfl, rfl, by decide +kernel, rfl, by decide +kernel, by decide +kernel⟩
theorem nm_ways_to_5 : Nm N_ways_to (defScope s_ways_to) 5 "value" := ⟨by decide +kernel⟩
theorem nm_ways_to_8 : Nm N_ways_to (defScope s_ways_to) 8 "more" := ⟨by decide +kernel⟩
theorem nm_ways_to_7 : Nm N_ways_to (defScope s_ways_to) 7 "k" := ⟨by decide +kernel⟩
theorem nm_ways_to_6 : Nm N_ways_to (defScope s_ways_to) 6 "row" := ⟨by decide +kernel⟩
theorem nm_ways_to_4 : Nm N_ways_to (defScope s_ways_to) 4 "fresh" := ⟨by decide +kernel⟩
theorem lk_ways_to_7 : Lk N_ways_to (defScope s_ways_to) 7 "k" := ⟨by decide +kernel⟩
theorem lk_ways_to_8 : Lk N_ways_to (defScope s_ways_to) 8 "more" := ⟨by decide +kernel⟩
theorem nm_ways_to_1 : Nm N_ways_to (defScope s_ways_to) 1 "number" := ⟨by decide +kernel⟩
theorem nm_ways_to_3 : Nm N_ways_to (defScope s_ways_to) 3 "lot" := ⟨by decide +kernel⟩
theorem gl_ways_to_triangles_for : glB (defScope s_ways_to) "triangles_for" = true := by decide +kernel
theorem lk_ways_to_5 : Lk N_ways_to (defScope s_ways_to) 5 "value" := ⟨by decide +kernel⟩
theorem lk_ways_to_6 : Lk N_ways_to (defScope s_ways_to) 6 "row" := ⟨by decide +kernel⟩
theorem nm_ways_to_2 : Nm N_ways_to (defScope s_ways_to) 2 "found" := ⟨by decide +kernel⟩
theorem lk_ways_to_2 : Lk N_ways_to (defScope s_ways_to) 2 "found" := ⟨by decide +kernel⟩
theorem lk_ways_to_4 : Lk N_ways_to (defScope s_ways_to) 4 "fresh" := ⟨by decide +kernel⟩
theorem lk_ways_to_3 : Lk N_ways_to (defScope s_ways_to) 3 "lot" := ⟨by decide +kernel⟩
theorem nm_ways_to_0 : Nm N_ways_to (defScope s_ways_to) 0 "lots" := ⟨by decide +kernel⟩
theorem g_ways_to (T : Fx K mg) : FnG P w K mg base 2 T.a_ways_to T.d_ways_to ["lots", "number"] m_ways_to := okG T.F_ways_to sc_ways_to (fun xs h => match xs, h with | [], _ => rfl | [_], _ => rfl | [_, _], h => absurd rfl h | _ :: _ :: _ :: _, _ => rfl) fun cdv A outer s H E xs c hl => match xs, hl with | [a_lots, a_number], _ => (sx_dict1 c 2 lk_ways_to_2 (Nat.le_of_ble_eq_true rfl) ev_int (ev_tup ea_nil) (fun kvs4 => (sx_freezeD 2 rfl (sx_then (st_only (st_for c.toCtx (τ := Val) (fun (st_ : List (Key × Val)) => ([.fz a_lots, .fz a_number, .fz (.dic st_), .un, .un, .un, .un, .un, .un] : Tv.Env)) id [] kvs4 rfl (wi_val (ev_var c.toCtx 0 nm_ways_to_0)) (fun st6 x7 => tb_name c 3 lk_ways_to_3 (Nat.le_of_ble_eq_true rfl) (sx_dict0 c 4 lk_ways_to_4 (Nat.le_of_ble_eq_true rfl) (sx_then (st_only (st_forItems c.toCtx (τ := Val) (fun (st_ : List (Key × Val)) => ([.fz a_lots, .fz a_number, .fz (.dic st6), .fz x7, .od st_, .un, .un, .un, .un] : Tv.Env)) id [] [] rfl 2 nm_ways_to_2 rfl (fun st8 x9 => tb_tup2 c 5 6 lk_ways_to_5 lk_ways_to_6 (Nat.le_of_ble_eq_true rfl) (Nat.le_of_ble_eq_true rfl) (fun v_value10 v_row11 => (sx_then (st_only (st_for c.toCtx (τ := Val) (fun (st_ : List (Key × Val)) => ([.fz a_lots, .fz a_number, .fz (.dic st6), .fz x7, .od st_, .fz v_value10, .fz v_row11, .un, .un] : Tv.Env)) id [] st8 rfl (wi_val (ev_call c.toCtx (g_triangles_for T) (by decide) (b_triangles_for T) gl_ways_to_triangles_for T.g_triangles_for T.F_triangles_for.kp (ea_cons (ev_var c.toCtx 3 nm_ways_to_3) (ea_cons (ev_bin o_sub (ev_var c.toCtx 1 nm_ways_to_1) (ev_var c.toCtx 5 nm_ways_to_5)) ea_nil)))) (fun st12 x13 => tb_tup2 c 7 8 lk_ways_to_7 lk_ways_to_8 (Nat.le_of_ble_eq_true rfl) (Nat.le_of_ble_eq_true rfl) (fun v_k14 v_more15 => (sx_setd c.toCtx 4 nm_ways_to_4 rfl (ev_bin o_add (ev_var c.toCtx 5 nm_ways_to_5) (ev_var c.toCtx 8 nm_ways_to_8)) (ev_tup (ea_star (ev_var c.toCtx 6 nm_ways_to_6) (ea_cons (ev_var c.toCtx 7 nm_ways_to_7) ea_nil))) (fun j26 x25 => (sx_endF [7, 8] rfl rfl))))))) (fun st36 => (sx_endF [5, 6] rfl rfl))))))) (fun st37 => (sx_freezeD 4 rfl (sx_copy c 2 4 lk_ways_to_2 nm_ways_to_4 rfl (Nat.le_of_ble_eq_true rfl) (sx_endF [3, 4] rfl rfl))))))))) (fun st40 => (sx_ret' (ev_var c.toCtx 2 nm_ways_to_2)))))))
abbrev N_triangle_writing : List Str := ["lots", "number"]
theorem sc_triangle_writing : FnScope N_triangle_writing ["lots", "number"] (defScope s_triangle_writing) := ⟨rfl, rfl, rfl, by decide +kernel, rfl, by decide +kernel, by decide +kernel⟩
theorem nm_triangle_writing_0 : Nm N_triangle_writing (defScope s_triangle_writing) 0 "lots" := ⟨by decide +kernel⟩
theorem gl_triangle_writing_check_lots : glB (defScope s_triangle_writing) "check_lots" = true := by decide +kernel
theorem nm_triangle_writing_1 : Nm N_triangle_writing (defScope s_triangle_writing) 1 "number" := ⟨by decide +kernel⟩
theorem gl_triangle_writing_check_number : glB (defScope s_triangle_writing) "check_number" = true := by decide +kernel
theorem gl_triangle_writing_ways_to : glB (defScope s_triangle_writing) "ways_to" = true := by decide +kernel
theorem g_triangle_writing (T : Fx K mg) : FnG P w K mg base 4 T.a_triangle_writing T.d_triangle_writing ["lots", "number"] m_triangle_writing := okG T.F_triangle_writing sc_triangle_writing (fun xs h => match xs, h with | [], _ => rfl | [_], _ => rfl | [_, _], h => absurd rfl h | _ :: _ :: _ :: _, _ => rfl) fun cdv A outer s H E xs c hl => match xs, hl with | [a_lots, a_number], _ => (sx_expr (ev_call c.toCtx (g_check_lots T) (by decide) (b_check_lots T) gl_triangle_writing_check_lots T.g_check_lots T.F_check_lots.kp (ea_cons (ev_var c.toCtx 0 nm_triangle_writing_0) ea_nil)) (sx_expr (ev_call c.toCtx (g_check_number T) (by decide) (b_check_number T) gl_triangle_writing_check_number T.g_check_number T.F_check_number.kp (ea_cons (ev_var c.toCtx 1 nm_triangle_writing_1) ea_nil)) (sx_ret' (ev_get c.toCtx (ev_call c.toCtx (g_ways_to T) (by decide) (b_ways_to T) gl_triangle_writing_ways_to T.g_ways_to T.F_ways_to.kp (ea_cons (ev_var c.toCtx 0 nm_triangle_writing_0) (ea_cons (ev_var c.toCtx 1 nm_triangle_writing_1) ea_nil))) (ev_var c.toCtx 1 nm_triangle_writing_1) (fun _ => rfl)))))
abbrev N_do_give : List Str := ["lots", "number"]
theorem sc_do_give : FnScope N_do_give ["lots", "number"] (defScope s_do_give) := ⟨rfl, rfl, rfl, by decide +kernel, rfl, by decide +kernel, by decide +kernel⟩
theorem nm_do_give_1 : Nm N_do_give (defScope s_do_give) 1 "number" := ⟨by decide +kernel⟩
theorem nm_do_give_0 : Nm N_do_give (defScope s_do_give) 0 "lots" := ⟨by decide +kernel⟩
theorem gl_do_give_ways_to : glB (defScope s_do_give) "ways_to" = true := by decide +kernel
theorem g_do_give (T : Fx K mg) : FnG P w K mg base 3 T.a_do_give T.d_do_give ["lots", "number"] m_do_give := okG T.F_do_give sc_do_give (fun xs h => match xs, h with | [], _ => rfl | [_], _ => rfl | [_, _], h => absurd rfl h | _ :: _ :: _ :: _, _ => rfl) fun cdv A outer s H E xs c hl => match xs, hl with | [a_lots, a_number], _ => (sx_ret' (ev_cmp (o_inD c.toCtx) rfl (ev_var c.toCtx 1 nm_do_give_1) (ev_call c.toCtx (g_ways_to T) (by decide) (b_ways_to T) gl_do_give_ways_to T.g_ways_to T.F_ways_to.kp (ea_cons (ev_var c.toCtx 0 nm_do_give_0) (ea_cons (ev_var c.toCtx 1 nm_do_give_1) ea_nil)))))
abbrev N_first_lacking : List Str := ["lots", "number"]
theorem sc_first_lacking : FnScope N_first_lacking ["lots"] (defScope s_first_lacking) := ⟨rfl, rfl, rfl, by decide +kernel, rfl, by decide +kernel, by decide +kernel⟩
theorem nm_first_lacking_1 : Nm N_first_lacking (defScope s_first_lacking) 1 "number" := ⟨by decide +kernel⟩
theorem nm_first_lacking_0 : Nm N_first_lacking (defScope s_first_lacking) 0 "lots" := ⟨by decide +kernel⟩
theorem gl_first_lacking_do_give : glB (defScope s_first_lacking) "do_give" = true := by decide +kernel
theorem lk_first_lacking_1 : Lk N_first_lacking (defScope s_first_lacking) 1 "number" := ⟨by decide +kernel⟩
theorem gl_first_lacking_TRIANGLES : glB (defScope s_first_lacking) "TRIANGLES" = true := by decide +kernel
theorem g_first_lacking (T : Fx K mg) : FnG P w K mg base 4 T.a_first_lacking T.d_first_lacking ["lots"] m_first_lacking := okG T.F_first_lacking sc_first_lacking (fun xs h => match xs, h with | [], _ => rfl | [_], h => absurd rfl h | _ :: _ :: _, _ => rfl) fun cdv A outer s H E xs c hl => match xs, hl with | [a_lots], _ => (sx_thenR (st_nxRt (st_for c.toCtx (τ := Val) (fun (st_ : Unit) => ([.fz a_lots, .un] : Tv.Env)) id [] () rfl (wi_val (ev_glob (u := .ref T.a_TRIANGLES) (v := .ref T.a_TRIANGLES) c.toCtx gl_first_lacking_TRIANGLES T.c_TRIANGLES rfl fun _ _ => repK T.q_TRIANGLES)) (fun st1 x2 => tb_name c 1 lk_first_lacking_1 (Nat.le_of_ble_eq_true rfl) (sx_if (et_not (et_val (ev_call c.toCtx (g_do_give T) (by decide) (b_do_give T) gl_first_lacking_do_give T.g_do_give T.F_do_give.kp (ea_cons (ev_var c.toCtx 0 nm_first_lacking_0) (ea_cons (ev_var c.toCtx 1 nm_first_lacking_1) ea_nil))))) (sx_ret (f := fun v => Fl.rt v) (ev_var c.toCtx 1 nm_first_lacking_1) (fun _ => .inl rfl)) (sx_pop (sx_endF [1] rfl rfl)))))) (fun st14 => (sx_ret' ev_non)) (fun _ => .inr rfl))
abbrev N_least_triangle_missed : List Str := ["lots"]
theorem sc_least_triangle_missed : FnScope N_least_triangle_missed ["lots"] (defScope s_least_triangle_missed) := ⟨rfl, rfl, rfl, by decide +kernel, rfl, by decide +kernel, by decide +kernel⟩
theorem nm_least_triangle_missed_0 : Nm N_least_triangle_missed (defScope s_least_triangle_missed) 0 "lots" := ⟨by decide +kernel⟩
theorem gl_least_triangle_missed_check_lots : glB (defScope s_least_triangle_missed) "check_lots" = true := by decide +kernel
theorem gl_least_triangle_missed_first_lacking : glB (defScope s_least_triangle_missed) "first_lacking" = true := by decide +kernel
theorem g_least_triangle_missed (T : Fx K mg) : FnG P w K mg base 5 T.a_least_triangle_missed T.d_least_triangle_missed ["lots"] m_least_triangle_missed := okG T.F_least_triangle_missed sc_least_triangle_missed (fun xs h => match xs, h with | [], _ => rfl | [_], h => absurd rfl h | _ :: _ :: _, _ => rfl) fun cdv A outer s H E xs c hl => match xs, hl with | [a_lots], _ => (sx_expr (ev_call c.toCtx (g_check_lots T) (by decide) (b_check_lots T) gl_least_triangle_missed_check_lots T.g_check_lots T.F_check_lots.kp (ea_cons (ev_var c.toCtx 0 nm_least_triangle_missed_0) ea_nil)) (sx_ret' (ev_call c.toCtx (g_first_lacking T) (by decide) (b_first_lacking T) gl_least_triangle_missed_first_lacking T.g_first_lacking T.F_first_lacking.kp (ea_cons (ev_var c.toCtx 0 nm_least_triangle_missed_0) ea_nil))))
abbrev N_triangles_all : List Str := ["lots"]
theorem sc_triangles_all : FnScope N_triangles_all ["lots"] (defScope s_triangles_all) := ⟨rfl, rfl, rfl, by decide +kernel, rfl, by decide +kernel, by decide +kernel⟩
theorem nm_triangles_all_0 : Nm N_triangles_all (defScope s_triangles_all) 0 "lots" := ⟨by decide +kernel⟩
theorem gl_triangles_all_check_lots : glB (defScope s_triangles_all) "check_lots" = true := by decide +kernel
theorem gl_triangles_all_first_lacking : glB (defScope s_triangles_all) "first_lacking" = true := by decide +kernel
theorem g_triangles_all (T : Fx K mg) : FnG P w K mg base 5 T.a_triangles_all T.d_triangles_all ["lots"] m_triangles_all := okG T.F_triangles_all sc_triangles_all (fun xs h => match xs, h with | [], _ => rfl | [_], h => absurd rfl h | _ :: _ :: _, _ => rfl) fun cdv A outer s H E xs c hl => match xs, hl with | [a_lots], _ => (sx_expr (ev_call c.toCtx (g_check_lots T) (by decide) (b_check_lots T) gl_triangles_all_check_lots T.g_check_lots T.F_check_lots.kp (ea_cons (ev_var c.toCtx 0 nm_triangles_all_0) ea_nil)) (sx_ret' (ev_cmp o_isN rfl (ev_call c.toCtx (g_first_lacking T) (by decide) (b_first_lacking T) gl_triangles_all_first_lacking T.g_first_lacking T.F_first_lacking.kp (ea_cons (ev_var c.toCtx 0 nm_triangles_all_0) ea_nil)) ev_non)))
abbrev N__law_is_writing : List Str := ["lots_here", "number_here", "told", "k", "lot"]
theorem sc__law_is_writing : FnScope N__law_is_writing ["lots_here", "number_here", "told"] (defScope s__law_is_writing) := ⟨rfl, rfl, rfl, by decide +kernel, rfl, by decide +kernel, by decide +kernel⟩
theorem nm__law_is_writing_2 : Nm N__law_is_writing (defScope s__law_is_writing) 2 "told" := ⟨by decide +kernel⟩
theorem gl__law_is_writing_isinstance : glB (defScope s__law_is_writing) "isinstance" = true := by decide +kernel
theorem gl__law_is_writing_tuple : glB (defScope s__law_is_writing) "tuple" = true := by decide +kernel
theorem gl__law_is_writing_len : glB (defScope s__law_is_writing) "len" = true := by decide +kernel
theorem nm__law_is_writing_0 : Nm N__law_is_writing (defScope s__law_is_writing) 0 "lots_here" := ⟨by decide +kernel⟩
theorem gl__law_is_writing_zip : glB (defScope s__law_is_writing) "zip" = true := by decide +kernel
theorem gl__law_is_writing_sum : glB (defScope s__law_is_writing) "sum" = true := by decide +kernel
theorem nm__law_is_writing_1 : Nm N__law_is_writing (defScope s__law_is_writing) 1 "number_here" := ⟨by decide +kernel⟩
theorem g__law_is_writing (T : Fx K mg) : FnG P w K mg base 1 T.a__law_is_writing T.d__law_is_writing ["lots_here", "number_here", "told"] m__law_is_writing := okG T.F__law_is_writing sc__law_is_writing (fun xs h => match xs, h with | [], _ => rfl | [_], _ => rfl | [_, _], _ => rfl | [_, _, _], h => absurd rfl h | _ :: _ :: _ :: _ :: _, _ => rfl) fun cdv A outer s H E xs c hl => match xs, hl with | [a_lots_here, a_number_here, a_told], _ => (sx_if (et_bool (ew_or (et_not (et_val (ev_isB c.toCtx gl__law_is_writing_isinstance T.z_isinstance gl__law_is_writing_tuple T.z_tuple PyProof.Rows.boot_tuple (by decide) (ev_var c.toCtx 2 nm__law_is_writing_2)))) (ew_or1 (et_cmp (o_ne c.toCtx) (ev_blt c.toCtx f_len gl__law_is_writing_len T.z_len bt_len (ea_cons (ev_var c.toCtx 2 nm__law_is_writing_2) ea_nil)) (ev_blt c.toCtx f_len gl__law_is_writing_len T.z_len bt_len (ea_cons (ev_var c.toCtx 0 nm__law_is_writing_0) ea_nil)))))) (sx_ret' ev_bl) (sx_pop (sx_if (et_cmp (o_ne c.toCtx) (ev_lcif c.toCtx (i := 3) (own := [("k", 3)]) (by decide +kernel) ⟨by decide +kernel⟩ (by decide) (Nat.le_of_ble_eq_true rfl) (wi_val (ev_var c.toCtx 2 nm__law_is_writing_2)) (fun v17 s_ H_ C_ cl_ fp_ => (et_bool (ew_or (et_not (et_val (ev_isB (c.toCtx.blk _ s_ H_ C_ cl_ fp_) (by decide +kernel) T.z_isinstance (by decide +kernel) T.z_int PyProof.Rows.boot_int (by decide) (ev_var (c.toCtx.blk _ s_ H_ C_ cl_ fp_) 3 ⟨by decide +kernel⟩)))) (ew_or (et_val (ev_isB (c.toCtx.blk _ s_ H_ C_ cl_ fp_) (by decide +kernel) T.z_isinstance (by decide +kernel) T.z_bool PyProof.Rows.boot_bool (by decide) (ev_var (c.toCtx.blk _ s_ H_ C_ cl_ fp_) 3 ⟨by decide +kernel⟩))) (ew_or1 (et_cmp o_lt (ev_var (c.toCtx.blk _ s_ H_ C_ cl_ fp_) 3 ⟨by decide +kernel⟩) ev_int)))))) (fun v17 s_ H_ C_ cl_ fp_ => (ev_var (c.toCtx.blk _ s_ H_ C_ cl_ fp_) 3 ⟨by decide +kernel⟩))).1 (ev_lst ea_nil)) (sx_ret' ev_bl) (sx_pop (sx_ret' (ev_cmp (o_eq c.toCtx) rfl (ev_blt c.toCtx (f_sum c.toCtx) gl__law_is_writing_sum T.z_sum bt_sum (ea_cons (ev_lc2 c.toCtx (i := 4) (j := 3) (own := [("lot", 4), ("k", 3)]) (by decide +kernel) ⟨by decide +kernel⟩ ⟨by decide +kernel⟩ (by decide) (by decide) (Nat.le_of_ble_eq_true rfl) (Nat.le_of_ble_eq_true rfl) (wi_zip c.toCtx gl__law_is_writing_zip T.z_zip (ea_cons (ev_var c.toCtx 0 nm__law_is_writing_0) (ea_cons (ev_var c.toCtx 2 nm__law_is_writing_2) ea_nil))) (fun v42 v43 s_ H_ C_ cl_ fp_ => (ev_bin o_fdiv (ev_bin o_mul (ev_bin o_mul (ev_var (c.toCtx.blk _ s_ H_ C_ cl_ fp_) 4 ⟨by decide +kernel⟩) (ev_var (c.toCtx.blk _ s_ H_ C_ cl_ fp_) 3 ⟨by decide +kernel⟩)) (ev_bin o_add (ev_var (c.toCtx.blk _ s_ H_ C_ cl_ fp_) 3 ⟨by decide +kernel⟩) ev_int)) ev_int))).1 ea_nil)) (ev_var c.toCtx 1 nm__law_is_writing_1)))))))
abbrev N_triangles_give : List Str := ["lots", "number"]
theorem sc_triangles_give : FnScope N_triangles_give ["lots", "number"] (defScope s_triangles_give) := ⟨rfl, rfl, rfl, by decide +kernel, rfl, by decide +kernel, by decide +kernel⟩
theorem nm_triangles_give_0 : Nm N_triangles_give (defScope s_triangles_give) 0 "lots" := ⟨by decide +kernel⟩
theorem gl_triangles_give_check_lots : glB (defScope s_triangles_give) "check_lots" = true := by decide +kernel
theorem nm_triangles_give_1 : Nm N_triangles_give (defScope s_triangles_give) 1 "number" := ⟨by decide +kernel⟩
theorem gl_triangles_give_check_number : glB (defScope s_triangles_give) "check_number" = true := by decide +kernel
theorem gl_triangles_give_do_give : glB (defScope s_triangles_give) "do_give" = true := by decide +kernel
theorem g_triangles_give (T : Fx K mg) : FnG P w K mg base 4 T.a_triangles_give T.d_triangles_give ["lots", "number"] m_triangles_give := okG T.F_triangles_give sc_triangles_give (fun xs h => match xs, h with | [], _ => rfl | [_], _ => rfl | [_, _], h => absurd rfl h | _ :: _ :: _ :: _, _ => rfl) fun cdv A outer s H E xs c hl => match xs, hl with | [a_lots, a_number], _ => (sx_expr (ev_call c.toCtx (g_check_lots T) (by decide) (b_check_lots T) gl_triangles_give_check_lots T.g_check_lots T.F_check_lots.kp (ea_cons (ev_var c.toCtx 0 nm_triangles_give_0) ea_nil)) (sx_expr (ev_call c.toCtx (g_check_number T) (by decide) (b_check_number T) gl_triangles_give_check_number T.g_check_number T.F_check_number.kp (ea_cons (ev_var c.toCtx 1 nm_triangles_give_1) ea_nil)) (sx_ret' (ev_call c.toCtx (g_do_give T) (by decide) (b_do_give T) gl_triangles_give_do_give T.g_do_give T.F_do_give.kp (ea_cons (ev_var c.toCtx 0 nm_triangles_give_0) (ea_cons (ev_var c.toCtx 1 nm_triangles_give_1) ea_nil))))))
abbrev N__law_right : List Str := ["pail", "turn", "lots_here", "some", "lost", "each", "least_here", "told", "number_here", "due", "k"]
theorem sc__law_right : FnScope N__law_right ["pail"] (defScope s__law_right) := ⟨rfl, rfl, rfl, by decide +kernel, rfl, by decide +kernel, by decide +kernel⟩
theorem nm__law_right_0 : Nm N__law_right (defScope s__law_right) 0 "pail" := ⟨by decide +kernel⟩
theorem gl__law_right__law_drawn_lots : glB (defScope s__law_right) "_law_drawn_lots" = true := by decide +kernel
theorem nm__law_right_2 : Nm N__law_right (defScope s__law_right) 2 "lots_here" := ⟨by decide +kernel⟩
theorem gl__law_right__law_sums : glB (defScope s__law_right) "_law_sums" = true := by decide +kernel
theorem gl__law_right_range : glB (defScope s__law_right) "range" = true := by decide +kernel
theorem gl__law_right__law_pull : glB (defScope s__law_right) "_law_pull" = true := by decide +kernel
theorem nm__law_right_8 : Nm N__law_right (defScope s__law_right) 8 "number_here" := ⟨by decide +kernel⟩
theorem nm__law_right_3 : Nm N__law_right (defScope s__law_right) 3 "some" := ⟨by decide +kernel⟩
theorem gl__law_right_triangles_give : glB (defScope s__law_right) "triangles_give" = true := by decide +kernel
theorem gl__law_right_repr : glB (defScope s__law_right) "repr" = true := by decide +kernel
theorem nm__law_right_9 : Nm N__law_right (defScope s__law_right) 9 "due" := ⟨by decide +kernel⟩
theorem nm__law_right_7 : Nm N__law_right (defScope s__law_right) 7 "told" := ⟨by decide +kernel⟩
theorem lk__law_right_7 : Lk N__law_right (defScope s__law_right) 7 "told" := ⟨by decide +kernel⟩
theorem gl__law_right_triangle_writing : glB (defScope s__law_right) "triangle_writing" = true := by decide +kernel
theorem gl__law_right__law_is_writing : glB (defScope s__law_right) "_law_is_writing" = true := by decide +kernel
theorem lk__law_right_9 : Lk N__law_right (defScope s__law_right) 9 "due" := ⟨by decide +kernel⟩
theorem lk__law_right_8 : Lk N__law_right (defScope s__law_right) 8 "number_here" := ⟨by decide +kernel⟩
theorem lk__law_right_5 : Lk N__law_right (defScope s__law_right) 5 "each" := ⟨by decide +kernel⟩
theorem nm__law_right_4 : Nm N__law_right (defScope s__law_right) 4 "lost" := ⟨by decide +kernel⟩
theorem gl__law_right_triangles_all : glB (defScope s__law_right) "triangles_all" = true := by decide +kernel
theorem gl__law_right_least_triangle_missed : glB (defScope s__law_right) "least_triangle_missed" = true := by decide +kernel
theorem nm__law_right_6 : Nm N__law_right (defScope s__law_right) 6 "least_here" := ⟨by decide +kernel⟩
theorem lk__law_right_6 : Lk N__law_right (defScope s__law_right) 6 "least_here" := ⟨by decide +kernel⟩
theorem lc__law_right_4 : Lc N__law_right (defScope s__law_right) 4 "lost" := ⟨by decide +kernel⟩
theorem lk__law_right_3 : Lk N__law_right (defScope s__law_right) 3 "some" := ⟨by decide +kernel⟩
theorem lk__law_right_2 : Lk N__law_right (defScope s__law_right) 2 "lots_here" := ⟨by decide +kernel⟩
theorem lk__law_right_1 : Lk N__law_right (defScope s__law_right) 1 "turn" := ⟨by decide +kernel⟩
theorem g__law_right (T : Fx K mg) : FnG P w K mg base 6 T.a__law_right T.d__law_right ["pail"] m__law_right := okG T.F__law_right sc__law_right (fun xs h => match xs, h with | [], _ => rfl | [_], h => absurd rfl h | _ :: _ :: _, _ => rfl) fun cdv A outer s H E xs c hl => match xs, hl with | [a_pail], _ => (sx_thenR (st_nxRt (st_for c.toCtx (τ := Val) (fun (st_ : Unit) => ([.fz a_pail, .un, .un, .un, .un, .un, .un, .un, .un, .un, .un] : Tv.Env)) id [] () rfl (wi_range1 c.toCtx gl__law_right_range T.z_range (ea_cons ev_int ea_nil)) (fun st1 x2 => tb_name c 1 lk__law_right_1 (Nat.le_of_ble_eq_true rfl) (sx_asg c 2 lk__law_right_2 (Nat.le_of_ble_eq_true rfl) (ev_call c.toCtx (g__law_drawn_lots T) (by decide) (b__law_drawn_lots T) gl__law_right__law_drawn_lots T.g__law_drawn_lots T.F__law_drawn_lots.kp (ea_cons (ev_var c.toCtx 0 nm__law_right_0) ea_nil)) (fun v_lots_here6 => (sx_asg c 3 lk__law_right_3 (Nat.le_of_ble_eq_true rfl) (ev_call c.toCtx (g__law_sums T).toM (by decide) (b__law_sums T) gl__law_right__law_sums T.g__law_sums T.F__law_sums.kp (ea_cons (ev_var c.toCtx 2 nm__law_right_2) (ea_cons ev_int ea_nil))) (fun v_some12 => (sx_asgLc c 4 lc__law_right_4 (Nat.le_of_ble_eq_true rfl) (ev_lcif c.toCtx (i := 10) (own := [("k", 10)]) (by decide +kernel) ⟨by decide +kernel⟩ (by decide) (Nat.le_of_ble_eq_true rfl) (wi_range2 c.toCtx gl__law_right_range T.z_range (ea_cons ev_int (ea_cons ev_int ea_nil))) (fun v20 s_ H_ C_ cl_ fp_ => (et_cmp (o_notInD (c.toCtx.blk _ s_ H_ C_ cl_ fp_)) (ev_var (c.toCtx.blk _ s_ H_ C_ cl_ fp_) 10 ⟨by decide +kernel⟩) (ev_var (c.toCtx.blk _ s_ H_ C_ cl_ fp_) 3 ⟨by decide +kernel⟩))) (fun v20 s_ H_ C_ cl_ fp_ => (ev_var (c.toCtx.blk _ s_ H_ C_ cl_ fp_) 10 ⟨by decide +kernel⟩))) (fun v_lost25 => (sx_thenR (st_nxRt (st_for c.toCtx (τ := Val) (fun (st_ : Unit) => ([.fz a_pail, .fz x2, .fz v_lots_here6, .fz v_some12, .fz v_lost25, .un, .un, .un, .un, .un, .un] : Tv.Env)) id [] () rfl (wi_range1 c.toCtx gl__law_right_range T.z_range (ea_cons ev_int ea_nil)) (fun st26 x27 => tb_name c 5 lk__law_right_5 (Nat.le_of_ble_eq_true rfl) (sx_asg c 8 lk__law_right_8 (Nat.le_of_ble_eq_true rfl) (ev_bin o_add ev_int (ev_call c.toCtx (g__law_pull T) (by decide) (b__law_pull T) gl__law_right__law_pull T.g__law_pull T.F__law_pull.kp (ea_cons (ev_var c.toCtx 0 nm__law_right_0) (ea_cons ev_int ea_nil)))) (fun v_number_here35 => (sx_asg c 9 lk__law_right_9 (Nat.le_of_ble_eq_true rfl) (ev_cmp (o_inD c.toCtx) rfl (ev_var c.toCtx 8 nm__law_right_8) (ev_var c.toCtx 3 nm__law_right_3)) (fun v_due38 => (sx_if (et_cmp (o_ne c.toCtx) (ev_blt c.toCtx (f_repr c.toCtx) gl__law_right_repr T.z_repr bt_repr (ea_cons (ev_lst (ea_cons (ev_call c.toCtx (g_triangles_give T).toM (by decide) (b_triangles_give T) gl__law_right_triangles_give T.g_triangles_give T.F_triangles_give.kp (ea_cons (ev_var c.toCtx 2 nm__law_right_2) (ea_cons (ev_var c.toCtx 8 nm__law_right_8) ea_nil))) (ea_cons (ev_callK0 c.toCtx (g_triangles_give T).toM (by decide) (kb_triangles_give_0_number_lots T) gl__law_right_triangles_give T.g_triangles_give T.F_triangles_give.kp (ek_cons (ev_var c.toCtx 8 nm__law_right_8) (ek_cons (ev_var c.toCtx 2 nm__law_right_2) ek_nil)) (fun _ => rfl) (fun _ => rfl) (fun _ => rfl)) ea_nil))) ea_nil)) (ev_blt c.toCtx (f_repr c.toCtx) gl__law_right_repr T.z_repr bt_repr (ea_cons (ev_lst (ea_cons (ev_var c.toCtx 9 nm__law_right_9) (ea_cons (ev_var c.toCtx 9 nm__law_right_9) ea_nil))) ea_nil))) (sx_ret (f := fun v => Fl.rt v) ev_bl (fun _ => .inl rfl)) (sx_pop (sx_thenR (st_nxRt (st_for c.toCtx (τ := Val) (fun (st_ : Unit) => ([.fz a_pail, .fz x2, .fz v_lots_here6, .fz v_some12, .fz v_lost25, .fz x27, .un, .un, .fz v_number_here35, .fz v_due38, .un] : Tv.Env)) id [] () rfl (wi_val (ev_lst (ea_cons (ev_call c.toCtx (g_triangle_writing T).toM (by decide) (b_triangle_writing T) gl__law_right_triangle_writing T.g_triangle_writing T.F_triangle_writing.kp (ea_cons (ev_var c.toCtx 2 nm__law_right_2) (ea_cons (ev_var c.toCtx 8 nm__law_right_8) ea_nil))) (ea_cons (ev_callK0 c.toCtx (g_triangle_writing T).toM (by decide) (kb_triangle_writing_0_number_lots T) gl__law_right_triangle_writing T.g_triangle_writing T.F_triangle_writing.kp (ek_cons (ev_var c.toCtx 8 nm__law_right_8) (ek_cons (ev_rev (ev_var c.toCtx 2 nm__law_right_2)) ek_nil)) (fun _ => rfl) (fun _ => rfl) (fun _ => rfl)) ea_nil)))) (fun st70 x71 => tb_name c 7 lk__law_right_7 (Nat.le_of_ble_eq_true rfl) (sx_if (et_bool (ew_or (et_bool (ew_and (et_not (et_val (ev_var c.toCtx 9 nm__law_right_9))) (ew_and1 (et_cmp o_notN (ev_var c.toCtx 7 nm__law_right_7) ev_non)))) (ew_or1 (et_bool (ew_and (et_val (ev_var c.toCtx 9 nm__law_right_9)) (ew_and1 (et_cmp o_isN (ev_var c.toCtx 7 nm__law_right_7) ev_non))))))) (sx_ret (f := fun v => Fl.rt v) ev_bl (fun _ => .inl rfl)) (sx_pop (sx_endF [7] rfl rfl)))))) (fun st103 => (sx_asg c 7 lk__law_right_7 (Nat.le_of_ble_eq_true rfl) (ev_call c.toCtx (g_triangle_writing T).toM (by decide) (b_triangle_writing T) gl__law_right_triangle_writing T.g_triangle_writing T.F_triangle_writing.kp (ea_cons (ev_var c.toCtx 2 nm__law_right_2) (ea_cons (ev_var c.toCtx 8 nm__law_right_8) ea_nil))) (fun v_told109 => (sx_if (et_bool (ew_and (et_val (ev_var c.toCtx 9 nm__law_right_9)) (ew_and1 (et_not (et_val (ev_call c.toCtx (g__law_is_writing T).toM (by decide) (b__law_is_writing T) gl__law_right__law_is_writing T.g__law_is_writing T.F__law_is_writing.kp (ea_cons (ev_var c.toCtx 2 nm__law_right_2) (ea_cons (ev_var c.toCtx 8 nm__law_right_8) (ea_cons (ev_var c.toCtx 7 nm__law_right_7) ea_nil))))))))) (sx_ret (f := fun v => Fl.rt v) ev_bl (fun _ => .inl rfl)) (sx_pop (sx_endF [5, 7, 8, 9] rfl rfl)))))) (fun _ => .inl rfl))))))))))) (fun st127 => (sx_asg c 6 lk__law_right_6 (Nat.le_of_ble_eq_true rfl) (ev_ifExp (et_cmp (o_ne c.toCtx) (ev_var c.toCtx 4 nm__law_right_4) (ev_lst ea_nil)) (ev_ixM (fun _ _ => rfl) (ev_var c.toCtx 4 nm__law_right_4) ev_int) ev_non) (fun v_least_here134 => (sx_asg c 7 lk__law_right_7 (Nat.le_of_ble_eq_true rfl) (ev_lst (ea_cons (ev_call c.toCtx (g_least_triangle_missed T).toM (by decide) (b_least_triangle_missed T) gl__law_right_least_triangle_missed T.g_least_triangle_missed T.F_least_triangle_missed.kp (ea_cons (ev_var c.toCtx 2 nm__law_right_2) ea_nil)) (ea_cons (ev_callK0 c.toCtx (g_least_triangle_missed T).toM (by decide) (kb_least_triangle_missed_0_lots T) gl__law_right_least_triangle_missed T.g_least_triangle_missed T.F_least_triangle_missed.kp (ek_cons (ev_rev (ev_var c.toCtx 2 nm__law_right_2)) ek_nil) (fun _ => rfl) (fun _ => rfl) (fun _ => rfl)) (ea_cons (ev_call c.toCtx (g_triangles_all T).toM (by decide) (b_triangles_all T) gl__law_right_triangles_all T.g_triangles_all T.F_triangles_all.kp (ea_cons (ev_var c.toCtx 2 nm__law_right_2) ea_nil)) ea_nil)))) (fun v_told153 => (sx_asg c 7 lk__law_right_7 (Nat.le_of_ble_eq_true rfl) (ev_bin o_add (ev_var c.toCtx 7 nm__law_right_7) (ev_lst (ea_cons (ev_callK0 c.toCtx (g_triangles_all T).toM (by decide) (kb_triangles_all_0_lots T) gl__law_right_triangles_all T.g_triangles_all T.F_triangles_all.kp (ek_cons (ev_var c.toCtx 2 nm__law_right_2) ek_nil) (fun _ => rfl) (fun _ => rfl) (fun _ => rfl)) ea_nil))) (fun v_told163 => (sx_if (et_cmp (o_ne c.toCtx) (ev_blt c.toCtx (f_repr c.toCtx) gl__law_right_repr T.z_repr bt_repr (ea_cons (ev_var c.toCtx 7 nm__law_right_7) ea_nil)) (ev_blt c.toCtx (f_repr c.toCtx) gl__law_right_repr T.z_repr bt_repr (ea_cons (ev_bin o_add (ev_bin o_mul (ev_lst (ea_cons (ev_var c.toCtx 6 nm__law_right_6) ea_nil)) ev_int) (ev_bin o_mul (ev_lst (ea_cons (ev_cmp (o_eq c.toCtx) rfl (ev_var c.toCtx 4 nm__law_right_4) (ev_lst ea_nil)) ea_nil)) ev_int)) ea_nil))) (sx_ret (f := fun v => Fl.rt v) ev_bl (fun _ => .inl rfl)) (sx_pop (sx_endF [1, 2, 3, 4, 6, 7] rfl rfl)))))))))) (fun _ => .inl rfl))) (by decide +kernel) (by decide +kernel) (by decide +kernel))))))))) (fun st193 => (sx_ret' ev_bl)) (fun _ => .inr rfl))
abbrev N__law_quiet : List Str := ["pail", "is_right"]
theorem sc__law_quiet : FnScope N__law_quiet ["pail"] (defScope s__law_quiet) := ⟨rfl, rfl, rfl, by decide +kernel, rfl, by decide +kernel, by decide +kernel⟩
theorem nm__law_quiet_0 : Nm N__law_quiet (defScope s__law_quiet) 0 "pail" := ⟨by decide +kernel⟩
theorem gl__law_quiet__law_right : glB (defScope s__law_quiet) "_law_right" = true := by decide +kernel
theorem lk__law_quiet_1 : Lk N__law_quiet (defScope s__law_quiet) 1 "is_right" := ⟨by decide +kernel⟩
theorem nm__law_quiet_1 : Nm N__law_quiet (defScope s__law_quiet) 1 "is_right" := ⟨by decide +kernel⟩
theorem g__law_quiet (T : Fx K mg) : FnG P w K mg base 7 T.a__law_quiet T.d__law_quiet ["pail"] m__law_quiet := okG T.F__law_quiet sc__law_quiet (fun xs h => match xs, h with | [], _ => rfl | [_], h => absurd rfl h | _ :: _ :: _, _ => rfl) fun cdv A outer s H E xs c hl => match xs, hl with | [a_pail], _ => (sx_then (enc0 := (fun (st_ : Val) => ([.fz a_pail, .fz st_] : Tv.Env))) (st_tryN c.toCtx (sx_asg c.nox 1 lk__law_quiet_1 (Nat.le_of_ble_eq_true rfl) (ev_call c.nox.toCtx (g__law_right T) (by decide) (b__law_right T) gl__law_quiet__law_right T.g__law_right T.F__law_right.kp (ea_cons (ev_var c.nox.toCtx 0 nm__law_quiet_0) ea_nil)) (fun v_is_right4 => (sx_endF [] rfl rfl)))) (fun st5 => (sx_ret' (ev_var c.toCtx 1 nm__law_quiet_1))))
abbrev N__law_pail : List Str := ["script", "turn", "figure", "seed", "each"]
theorem sc__law_pail : FnScope N__law_pail ["script", "turn"] (defScope s__law_pail) := ⟨rfl, rfl, rfl, by decide +kernel, rfl, by decide +kernel, by decide +kernel⟩
theorem nm__law_pail_1 : Nm N__law_pail (defScope s__law_pail) 1 "turn" := ⟨by decide +kernel⟩
theorem nm__law_pail_0 : Nm N__law_pail (defScope s__law_pail) 0 "script" := ⟨by decide +kernel⟩
theorem gl__law_pail_len : glB (defScope s__law_pail) "len" = true := by decide +kernel
theorem nm__law_pail_3 : Nm N__law_pail (defScope s__law_pail) 3 "seed" := ⟨by decide +kernel⟩
theorem nm__law_pail_4 : Nm N__law_pail (defScope s__law_pail) 4 "each" := ⟨by decide +kernel⟩
theorem gl__law_pail_int : glB (defScope s__law_pail) "int" = true := by decide +kernel
theorem lk__law_pail_3 : Lk N__law_pail (defScope s__law_pail) 3 "seed" := ⟨by decide +kernel⟩
theorem lk__law_pail_4 : Lk N__law_pail (defScope s__law_pail) 4 "each" := ⟨by decide +kernel⟩
theorem nm__law_pail_2 : Nm N__law_pail (defScope s__law_pail) 2 "figure" := ⟨by decide +kernel⟩
theorem gl__law_pail_abs : glB (defScope s__law_pail) "abs" = true := by decide +kernel
theorem lk__law_pail_2 : Lk N__law_pail (defScope s__law_pail) 2 "figure" := ⟨by decide +kernel⟩
theorem g__law_pail (T : Fx K mg) : FnG P w K mg base 1 T.a__law_pail T.d__law_pail ["script", "turn"] m__law_pail := okG T.F__law_pail sc__law_pail (fun xs h => match xs, h with | [], _ => rfl | [_], _ => rfl | [_, _], h => absurd rfl h | _ :: _ :: _ :: _, _ => rfl) fun cdv A outer s H E xs c hl => match xs, hl with | [a_script, a_turn], _ => (sx_asg c 2 lk__law_pail_2 (Nat.le_of_ble_eq_true rfl) (ev_ifExp (et_cmp o_lt (ev_var c.toCtx 1 nm__law_pail_1) (ev_blt c.toCtx f_len gl__law_pail_len T.z_len bt_len (ea_cons (ev_var c.toCtx 0 nm__law_pail_0) ea_nil))) (ev_ixM (fun _ _ => rfl) (ev_var c.toCtx 0 nm__law_pail_0) (ev_var c.toCtx 1 nm__law_pail_1)) (ev_bin o_add (ev_bin o_mul ev_int (ev_var c.toCtx 1 nm__law_pail_1)) ev_int)) (fun v_figure13 => (sx_asg c 3 lk__law_pail_3 (Nat.le_of_ble_eq_true rfl) (ev_bin o_add ev_int (ev_bin o_mul ev_int (ev_var c.toCtx 1 nm__law_pail_1))) (fun v_seed18 => (sx_then (st_only (st_for c.toCtx (τ := Val) (fun (st_ : Val) => ([.fz a_script, .fz a_turn, .fz v_figure13, .fz st_, .un] : Tv.Env)) id [] v_seed18 rfl (wi_val (ev_bin o_add (ev_lst (ea_cons (ev_var c.toCtx 2 nm__law_pail_2) ea_nil)) (ev_slice (ev_var c.toCtx 0 nm__law_pail_0) ep_none (ep_some ev_int)))) (fun st19 x20 => tb_name c 4 lk__law_pail_4 (Nat.le_of_ble_eq_true rfl) (sx_asg c 3 lk__law_pail_3 (Nat.le_of_ble_eq_true rfl) (ev_bin o_mod (ev_bty c.toCtx f_int gl__law_pail_int T.z_int bt_int (ea_cons (ev_bin o_add (ev_bin o_mul (ev_var c.toCtx 3 nm__law_pail_3) ev_int) (ev_var c.toCtx 4 nm__law_pail_4)) ea_nil)) ev_int) (fun v_seed30 => (sx_endF [4] rfl rfl)))))) (fun st42 => (sx_ret' (ev_lstC (ea_cons (ev_ifExp (et_cmp o_ge (ev_blt c.toCtx f_abs gl__law_pail_abs T.z_abs bt_abs (ea_cons (ev_var c.toCtx 2 nm__law_pail_2) ea_nil)) (ev_bin o_pow ev_int ev_int)) (ev_blt c.toCtx f_abs gl__law_pail_abs T.z_abs bt_abs (ea_cons (ev_var c.toCtx 2 nm__law_pail_2) ea_nil)) ev_int) (ea_cons (ev_var c.toCtx 3 nm__law_pail_3) (ea_cons ev_int ea_nil)))))))))))
abbrev N_law : List Str := ["script", "turn"]
theorem sc_law : FnScope N_law ["script"] (defScope s_law) := ⟨rfl, rfl, rfl, by decide +kernel, rfl, by decide +kernel, by decide +kernel⟩
theorem nm_law_0 : Nm N_law (defScope s_law) 0 "script" := ⟨by decide +kernel⟩
theorem gl_law_len : glB (defScope s_law) "len" = true := by decide +kernel
theorem gl_law_min : glB (defScope s_law) "min" = true := by decide +kernel
theorem gl_law_max : glB (defScope s_law) "max" = true := by decide +kernel
theorem gl_law_range : glB (defScope s_law) "range" = true := by decide +kernel
theorem gl_law_all : glB (defScope s_law) "all" = true := by decide +kernel
theorem g_law (T : Fx K mg) : FnG P w K mg base 8 T.a_law T.d_law ["script"] m_law := okG T.F_law sc_law (fun xs h => match xs, h with | [], _ => rfl | [_], h => absurd rfl h | _ :: _ :: _, _ => rfl) fun cdv A outer s H E xs c hl => match xs, hl with | [a_script], _ => (sx_ret' (ev_blt c.toCtx (f_all c.toCtx) gl_law_all T.z_all bt_all (ea_cons (ev_lc c.toCtx (i := 1) (own := [("turn", 1)]) (by decide +kernel) ⟨by decide +kernel⟩ (by decide) (Nat.le_of_ble_eq_true rfl) (wi_range1 c.toCtx gl_law_range T.z_range (ea_cons (ev_blt c.toCtx (f_max c.toCtx) gl_law_max T.z_max bt_max (ea_cons ev_int (ea_cons (ev_blt c.toCtx (f_min c.toCtx) gl_law_min T.z_min bt_min (ea_cons (ev_blt c.toCtx f_len gl_law_len T.z_len bt_len (ea_cons (ev_var c.toCtx 0 nm_law_0) ea_nil)) (ea_cons ev_int ea_nil))) ea_nil))) ea_nil)) (fun v21 s_ H_ C_ cl_ fp_ => (ev_call (c.toCtx.blk _ s_ H_ C_ cl_ fp_) (g__law_quiet T) (by decide) (b__law_quiet T) (by decide +kernel) T.g__law_quiet T.F__law_quiet.kp (ea_cons (ev_call (c.toCtx.blk _ s_ H_ C_ cl_ fp_) (g__law_pail T) (by decide) (b__law_pail T) (by decide +kernel) T.g__law_pail T.F__law_pail.kp (ea_cons (ev_var (c.toCtx.blk _ s_ H_ C_ cl_ fp_) 0 ⟨by decide +kernel⟩) (ea_cons (ev_var (c.toCtx.blk _ s_ H_ C_ cl_ fp_) 1 ⟨by decide +kernel⟩) ea_nil))) ea_nil)))).1 ea_nil)))
end
end K47

end
section
set_option maxHeartbeats 0
/-! the head, printed by gen.py -/
namespace K47
open PySem PySem.Spec PyProof.Rows L2 Tv
def df__law_pull : He.DefD := ⟨("_law_pull", none), "_law_pull", "_law_pull", defArgs s__law_pull, defBody s__law_pull, defScope s__law_pull, [], []⟩
def df_is_integer : He.DefD := ⟨("is_integer", none), "is_integer", "is_integer", defArgs s_is_integer, defBody s_is_integer, defScope s_is_integer, [], []⟩
def df_is_between : He.DefD := ⟨("is_between", none), "is_between", "is_between", defArgs s_is_between, defBody s_is_between, defScope s_is_between, [], []⟩
def df_triangles_for : He.DefD := ⟨("triangles_for", none), "triangles_for", "triangles_for", defArgs s_triangles_for, defBody s_triangles_for, defScope s_triangles_for, [], []⟩
def df_check_lots : He.DefD := ⟨("check_lots", none), "check_lots", "check_lots", defArgs s_check_lots, defBody s_check_lots, defScope s_check_lots, [], []⟩
def df_check_number : He.DefD := ⟨("check_number", none), "check_number", "check_number", defArgs s_check_number, defBody s_check_number, defScope s_check_number, [], []⟩
def df_ways_to : He.DefD := ⟨("ways_to", none), "ways_to", "ways_to", defArgs s_ways_to, defBody s_ways_to, defScope s_ways_to, [], []⟩
def df_do_give : He.DefD := ⟨("do_give", none), "do_give", "do_give", defArgs s_do_give, defBody s_do_give, defScope s_do_give, [], []⟩
def df_first_lacking : He.DefD := ⟨("first_lacking", none), "first_lacking", "first_lacking", defArgs s_first_lacking, defBody s_first_lacking, defScope s_first_lacking, [], []⟩
def df__law_drawn_lots : He.DefD := ⟨("_law_drawn_lots", none), "_law_drawn_lots", "_law_drawn_lots", defArgs s__law_drawn_lots, defBody s__law_drawn_lots, defScope s__law_drawn_lots, [], []⟩
def df__law_sums : He.DefD := ⟨("_law_sums", none), "_law_sums", "_law_sums", defArgs s__law_sums, defBody s__law_sums, defScope s__law_sums, [], []⟩
def df_triangles_give : He.DefD := ⟨("triangles_give", none), "triangles_give", "triangles_give", defArgs s_triangles_give, defBody s_triangles_give, defScope s_triangles_give, [], []⟩
def df_triangle_writing : He.DefD := ⟨("triangle_writing", none), "triangle_writing", "triangle_writing", defArgs s_triangle_writing, defBody s_triangle_writing, defScope s_triangle_writing, [], []⟩
def df__law_is_writing : He.DefD := ⟨("_law_is_writing", none), "_law_is_writing", "_law_is_writing", defArgs s__law_is_writing, defBody s__law_is_writing, defScope s__law_is_writing, [], []⟩
def df_triangles_all : He.DefD := ⟨("triangles_all", none), "triangles_all", "triangles_all", defArgs s_triangles_all, defBody s_triangles_all, defScope s_triangles_all, [], []⟩
def df_least_triangle_missed : He.DefD := ⟨("least_triangle_missed", none), "least_triangle_missed", "least_triangle_missed", defArgs s_least_triangle_missed, defBody s_least_triangle_missed, defScope s_least_triangle_missed, [], []⟩
def df__law_right : He.DefD := ⟨("_law_right", none), "_law_right", "_law_right", defArgs s__law_right, defBody s__law_right, defScope s__law_right, [], []⟩
def df__law_quiet : He.DefD := ⟨("_law_quiet", none), "_law_quiet", "_law_quiet", defArgs s__law_quiet, defBody s__law_quiet, defScope s__law_quiet, [], []⟩
def df__law_pail : He.DefD := ⟨("_law_pail", none), "_law_pail", "_law_pail", defArgs s__law_pail, defBody s__law_pail, defScope s__law_pail, [], []⟩
def df_law : He.DefD := ⟨("law", none), "law", "law", defArgs s_law, defBody s_law, defScope s_law, [], []⟩
def fnL : List He.DefD := [df__law_pull, df_is_integer, df_is_between, df_triangles_for, df_check_lots, df_check_number, df_ways_to, df_do_give, df_first_lacking, df__law_drawn_lots, df__law_sums, df_triangles_give, df_triangle_writing, df__law_is_writing, df_triangles_all, df_least_triangle_missed, df__law_right, df__law_quiet, df__law_pail, df_law]
def faL : List He.Fa := [.glo "_law_pull", .glo "is_integer", .glo "is_between", .glo "triangles_for", .glo "check_lots", .glo "check_number", .glo "ways_to", .glo "do_give", .glo "first_lacking", .glo "_law_drawn_lots", .glo "_law_sums", .glo "triangles_give", .glo "triangle_writing", .glo "_law_is_writing", .glo "triangles_all", .glo "least_triangle_missed", .glo "_law_right", .glo "_law_quiet", .glo "_law_pail", .glo "law", .free "divmod", .free "int", .free "tuple", .free "range", .free "sorted", .free "set", .free "isinstance", .free "bool", .free "len", .free "enumerate", .free "sum", .free "zip", .free "repr", .free "abs", .free "all", .free "max", .free "min", .int "MOST_LOTS" 6, .int "MOST_ENTRY" 1000, .int "MOST_NUMBER" 1000, .glo "TRIANGLES"]
def tsL : List TabI := [("TRIANGLES", [1, 2, 4, 5, 8])]
abbrev RO : PySem.W.OpenRow := PySem.W.OpenLaw.row PySem.Challenge.rw_fifteenforms_k47_whole_triangular_sums
abbrev hkL : PySem.W.Hook := hookX 4 faL fnL tsL
def obL (s : PySem.W.SharedT) : AlX := obsXG 4 faL fnL tsL (HandSHeadRun.getT s)
theorem obL_eq (s : PySem.W.SharedT) : obL s = hkL.obs s.abs := obsXG_eq (HandSHeadRun.getT_eq s)
abbrev looseL : List Str := ["WrongValue", "InvalidNumber", "InvalidLots", "WrongName", "NoAnswer", "is_integer", "is_between", "MOST_ENTRY", "MOST_NUMBER", "MOST_LOTS", "TRIANGLES", "check_number", "check_lots", "triangles_for", "ways_to", "do_give", "first_lacking", "triangles_give", "triangles_all", "least_triangle_missed", "triangle_writing", "_law_pail", "_law_pull", "_law_sums", "_law_is_writing", "_law_drawn_lots", "_law_right", "_law_quiet"]
theorem runL (w : World) : HandSHeadRun.RunEq RO (PySem.W.view RO.prog [33]) hkL obL 4000 looseL w := by
  intro os
  kernel_rfl
noncomputable def mkFx {K : PySem.W.Frag} {h : Heap} {mg : Str → Option Value} (X : K.In h) (G : h.Ns mainGlobals mg) (c : SaysX faL fnL tsL K) : Fx K mg where
  z_divmod := He.free_ok X G (c.d.fact 20 (f := .free "divmod") rfl)
  z_int := He.free_ok X G (c.d.fact 21 (f := .free "int") rfl)
  a__law_pull := He.fAd K ("_law_pull", none)
  d__law_pull := Classical.choose (c.d.def_ 0 (d := df__law_pull) rfl)
  F__law_pull := Classical.choose_spec (c.d.def_ 0 (d := df__law_pull) rfl)
  g__law_pull := He.glo_ok X G (c.d.fact 0 (f := .glo "_law_pull") rfl)
  z_tuple := He.free_ok X G (c.d.fact 22 (f := .free "tuple") rfl)
  z_range := He.free_ok X G (c.d.fact 23 (f := .free "range") rfl)
  z_sorted := He.free_ok X G (c.d.fact 24 (f := .free "sorted") rfl)
  z_set := He.free_ok X G (c.d.fact 25 (f := .free "set") rfl)
  z_isinstance := He.free_ok X G (c.d.fact 26 (f := .free "isinstance") rfl)
  z_bool := He.free_ok X G (c.d.fact 27 (f := .free "bool") rfl)
  a_is_integer := He.fAd K ("is_integer", none)
  d_is_integer := Classical.choose (c.d.def_ 1 (d := df_is_integer) rfl)
  F_is_integer := Classical.choose_spec (c.d.def_ 1 (d := df_is_integer) rfl)
  g_is_integer := He.glo_ok X G (c.d.fact 1 (f := .glo "is_integer") rfl)
  z_len := He.free_ok X G (c.d.fact 28 (f := .free "len") rfl)
  u_MOST_LOTS := .int 6 (Classical.choose (He.int_ok X G (c.d.fact 37 (f := .int "MOST_LOTS" 6) rfl)))
  c_MOST_LOTS := Classical.choose_spec (He.int_ok X G (c.d.fact 37 (f := .int "MOST_LOTS" 6) rfl))
  r_MOST_LOTS := ⟨_, rfl⟩
  a_is_between := He.fAd K ("is_between", none)
  d_is_between := Classical.choose (c.d.def_ 2 (d := df_is_between) rfl)
  F_is_between := Classical.choose_spec (c.d.def_ 2 (d := df_is_between) rfl)
  g_is_between := He.glo_ok X G (c.d.fact 2 (f := .glo "is_between") rfl)
  u_MOST_ENTRY := .int 1000 (Classical.choose (He.int_ok X G (c.d.fact 38 (f := .int "MOST_ENTRY" 1000) rfl)))
  c_MOST_ENTRY := Classical.choose_spec (He.int_ok X G (c.d.fact 38 (f := .int "MOST_ENTRY" 1000) rfl))
  r_MOST_ENTRY := ⟨_, rfl⟩
  z_enumerate := He.free_ok X G (c.d.fact 29 (f := .free "enumerate") rfl)
  u_MOST_NUMBER := .int 1000 (Classical.choose (He.int_ok X G (c.d.fact 39 (f := .int "MOST_NUMBER" 1000) rfl)))
  c_MOST_NUMBER := Classical.choose_spec (He.int_ok X G (c.d.fact 39 (f := .int "MOST_NUMBER" 1000) rfl))
  r_MOST_NUMBER := ⟨_, rfl⟩
  a_triangles_for := He.fAd K ("triangles_for", none)
  d_triangles_for := Classical.choose (c.d.def_ 3 (d := df_triangles_for) rfl)
  F_triangles_for := Classical.choose_spec (c.d.def_ 3 (d := df_triangles_for) rfl)
  g_triangles_for := He.glo_ok X G (c.d.fact 3 (f := .glo "triangles_for") rfl)
  a_check_lots := He.fAd K ("check_lots", none)
  d_check_lots := Classical.choose (c.d.def_ 4 (d := df_check_lots) rfl)
  F_check_lots := Classical.choose_spec (c.d.def_ 4 (d := df_check_lots) rfl)
  g_check_lots := He.glo_ok X G (c.d.fact 4 (f := .glo "check_lots") rfl)
  a_check_number := He.fAd K ("check_number", none)
  d_check_number := Classical.choose (c.d.def_ 5 (d := df_check_number) rfl)
  F_check_number := Classical.choose_spec (c.d.def_ 5 (d := df_check_number) rfl)
  g_check_number := He.glo_ok X G (c.d.fact 5 (f := .glo "check_number") rfl)
  a_ways_to := He.fAd K ("ways_to", none)
  d_ways_to := Classical.choose (c.d.def_ 6 (d := df_ways_to) rfl)
  F_ways_to := Classical.choose_spec (c.d.def_ 6 (d := df_ways_to) rfl)
  g_ways_to := He.glo_ok X G (c.d.fact 6 (f := .glo "ways_to") rfl)
  a_do_give := He.fAd K ("do_give", none)
  d_do_give := Classical.choose (c.d.def_ 7 (d := df_do_give) rfl)
  F_do_give := Classical.choose_spec (c.d.def_ 7 (d := df_do_give) rfl)
  g_do_give := He.glo_ok X G (c.d.fact 7 (f := .glo "do_give") rfl)
  a_TRIANGLES := He.ga K "TRIANGLES"
  c_TRIANGLES := He.glo_ok X G (c.d.fact 40 (f := .glo "TRIANGLES") rfl)
  q_TRIANGLES := fun H => tab_sq (c.tab 0 (t := ("TRIANGLES", [1, 2, 4, 5, 8])) rfl) H
  a_first_lacking := He.fAd K ("first_lacking", none)
  d_first_lacking := Classical.choose (c.d.def_ 8 (d := df_first_lacking) rfl)
  F_first_lacking := Classical.choose_spec (c.d.def_ 8 (d := df_first_lacking) rfl)
  g_first_lacking := He.glo_ok X G (c.d.fact 8 (f := .glo "first_lacking") rfl)
  z_sum := He.free_ok X G (c.d.fact 30 (f := .free "sum") rfl)
  z_zip := He.free_ok X G (c.d.fact 31 (f := .free "zip") rfl)
  a__law_drawn_lots := He.fAd K ("_law_drawn_lots", none)
  d__law_drawn_lots := Classical.choose (c.d.def_ 9 (d := df__law_drawn_lots) rfl)
  F__law_drawn_lots := Classical.choose_spec (c.d.def_ 9 (d := df__law_drawn_lots) rfl)
  g__law_drawn_lots := He.glo_ok X G (c.d.fact 9 (f := .glo "_law_drawn_lots") rfl)
  a__law_sums := He.fAd K ("_law_sums", none)
  d__law_sums := Classical.choose (c.d.def_ 10 (d := df__law_sums) rfl)
  F__law_sums := Classical.choose_spec (c.d.def_ 10 (d := df__law_sums) rfl)
  g__law_sums := He.glo_ok X G (c.d.fact 10 (f := .glo "_law_sums") rfl)
  z_repr := He.free_ok X G (c.d.fact 32 (f := .free "repr") rfl)
  a_triangles_give := He.fAd K ("triangles_give", none)
  d_triangles_give := Classical.choose (c.d.def_ 11 (d := df_triangles_give) rfl)
  F_triangles_give := Classical.choose_spec (c.d.def_ 11 (d := df_triangles_give) rfl)
  g_triangles_give := He.glo_ok X G (c.d.fact 11 (f := .glo "triangles_give") rfl)
  a_triangle_writing := He.fAd K ("triangle_writing", none)
  d_triangle_writing := Classical.choose (c.d.def_ 12 (d := df_triangle_writing) rfl)
  F_triangle_writing := Classical.choose_spec (c.d.def_ 12 (d := df_triangle_writing) rfl)
  g_triangle_writing := He.glo_ok X G (c.d.fact 12 (f := .glo "triangle_writing") rfl)
  a__law_is_writing := He.fAd K ("_law_is_writing", none)
  d__law_is_writing := Classical.choose (c.d.def_ 13 (d := df__law_is_writing) rfl)
  F__law_is_writing := Classical.choose_spec (c.d.def_ 13 (d := df__law_is_writing) rfl)
  g__law_is_writing := He.glo_ok X G (c.d.fact 13 (f := .glo "_law_is_writing") rfl)
  a_triangles_all := He.fAd K ("triangles_all", none)
  d_triangles_all := Classical.choose (c.d.def_ 14 (d := df_triangles_all) rfl)
  F_triangles_all := Classical.choose_spec (c.d.def_ 14 (d := df_triangles_all) rfl)
  g_triangles_all := He.glo_ok X G (c.d.fact 14 (f := .glo "triangles_all") rfl)
  a_least_triangle_missed := He.fAd K ("least_triangle_missed", none)
  d_least_triangle_missed := Classical.choose (c.d.def_ 15 (d := df_least_triangle_missed) rfl)
  F_least_triangle_missed := Classical.choose_spec (c.d.def_ 15 (d := df_least_triangle_missed) rfl)
  g_least_triangle_missed := He.glo_ok X G (c.d.fact 15 (f := .glo "least_triangle_missed") rfl)
  a__law_right := He.fAd K ("_law_right", none)
  d__law_right := Classical.choose (c.d.def_ 16 (d := df__law_right) rfl)
  F__law_right := Classical.choose_spec (c.d.def_ 16 (d := df__law_right) rfl)
  g__law_right := He.glo_ok X G (c.d.fact 16 (f := .glo "_law_right") rfl)
  z_abs := He.free_ok X G (c.d.fact 33 (f := .free "abs") rfl)
  z_all := He.free_ok X G (c.d.fact 34 (f := .free "all") rfl)
  z_max := He.free_ok X G (c.d.fact 35 (f := .free "max") rfl)
  z_min := He.free_ok X G (c.d.fact 36 (f := .free "min") rfl)
  a__law_quiet := He.fAd K ("_law_quiet", none)
  d__law_quiet := Classical.choose (c.d.def_ 17 (d := df__law_quiet) rfl)
  F__law_quiet := Classical.choose_spec (c.d.def_ 17 (d := df__law_quiet) rfl)
  g__law_quiet := He.glo_ok X G (c.d.fact 17 (f := .glo "_law_quiet") rfl)
  a__law_pail := He.fAd K ("_law_pail", none)
  d__law_pail := Classical.choose (c.d.def_ 18 (d := df__law_pail) rfl)
  F__law_pail := Classical.choose_spec (c.d.def_ 18 (d := df__law_pail) rfl)
  g__law_pail := He.glo_ok X G (c.d.fact 18 (f := .glo "_law_pail") rfl)
  a_law := He.fAd K ("law", none)
  d_law := Classical.choose (c.d.def_ 19 (d := df_law) rfl)
  F_law := Classical.choose_spec (c.d.def_ 19 (d := df_law) rfl)
  g_law := He.glo_ok X G (c.d.fact 19 (f := .glo "law") rfl)
end K47
open PySem PySem.W PySem.Calls PyProof.Rows
theorem K47.holds_of (hres : ∀ ns : List Int, ns.length ≤ 63 → ∃ S', Tv.Mon.run (K47.m_law [.scr (ns.map .int)]) [] = (.ok (.bl true), S')) : PySem.Challenge.rw_fifteenforms_k47_whole_triangular_sums.Holds := by
  w_on; o_law
  refine HandSHeadRun.head_any (r := OpenLaw.row PySem.Challenge.rw_fifteenforms_k47_whole_triangular_sums) (q := view (OpenLaw.row PySem.Challenge.rw_fifteenforms_k47_whole_triangular_sums).prog [33]) (H := K47.hkL) (ob := K47.obL) (M := 4000) (loose := K47.looseL) (d := HandSHeadRun.topDef (OpenLaw.row PySem.Challenge.rw_fifteenforms_k47_whole_triangular_sums).prog 33) (kwd := []) K47.obL_eq
    (by kernel_rfl) (fun s => by kernel_rfl) K47.runL (by kernel_rfl) (by kernel_rfl) (by kernel_rfl) (by rfl) (by first | assumption | decide +kernel) (by decide +kernel) ⟨rfl, rfl, rfl, rfl, rfl, by decide +kernel⟩ ?hw ?hc
  case hw => w_witness2
  case hc =>
    refine Tv.walk_ofG (m := Tv.M) (l := PySem.Challenge.rw_fifteenforms_k47_whole_triangular_sums) (n := 63) (k := 8) (x := "script") rfl (by decide) (by kernel_rfl) ⟨rfl, by decide, by decide⟩ ?F
    intro w mg fa h Y G hmg0
    obtain ⟨K, KX, c⟩ := Y
    have T := K47.mkFx KX G c
    have hmg : mg ("law" : PySem.Str) = some (.ref fa) := by
      have e : (HandSHeadRun.topDef (OpenLaw.row PySem.Challenge.rw_fifteenforms_k47_whole_triangular_sums).prog 33).name = ("law" : PySem.Str) := by kernel_rfl
      rw [← e]
      exact hmg0
    have e2 := hmg.symm.trans T.g_law
    cases e2
    have b := L2.FunD.bindsA (ps := ["script"]) T.F_law fun _ _ _ _ _ _ us hl => match us, hl with | [_], _ => rfl
    exact ⟨K, T.d_law, K47.m_law, KX, fun s u => b s [u] rfl, hres, fun base _ _ => K47.g_law T⟩

end
open PySem PySem.W PyProof.Rows
theorem PySem.Challenge.cw_fifteenforms_k47_whole_triangular_sums_holds : PySem.Challenge.rw_fifteenforms_k47_whole_triangular_sums.Holds :=
  K47.holds_of K47.law_true
