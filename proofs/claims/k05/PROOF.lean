import PyProof.Rows.All
import Wide.All
import OpenK.AllK
import Wide.FinOn
import HandS.ForSpec
import HandS.IsInst
import HandS.TupAny
import HandS.TupMul
import HandS.Wide
import HandS.Text
import HandS.Comp
import HandS.Walk
import HandS.RaiseMore
import HandS.Dict
import HandS.WordsDict
import HandS.Flow
import KE.GoesEnum
import KE.GoesMore
import KE.GoesZip
import HandS.Style
import HandS.SortInts
import HandS.Deep
import HandS.SetFor
import HandS.Star
import HandS.SetKeys
import HandS.Defaults
import HandS.Ends
import KE.KStateDown
import HandS.More
import HandS.Words
import HandS.WordsExc
import HandS.Head0
import HandS.Head1
import HandS.Head2
import HandS.HeadEnd
import HandS.HeadHook1
import HandS.HeadHook2
import HandS.Property
import HandS.ClsMeth
import KE.BitLaws
import PySem.Challenge.RW_fifteenforms_k05_whole_values
set_option Elab.async false
set_option linter.all false
set_option maxRecDepth 100000
namespace Tv
open PySem L2

/-- a Python value as a tree -/
inductive Val where
  | non
  | bl (b : Bool)
  | int (i : Int)
  | str (x : Str)
  | tup (xs : List Val)
  | lst (xs : List Val)
  | dic (kvs : List (Key × Val))
  | obj (C : Str) (fs : List (Str × Val))
  | cell (n : Nat)
  | scr (xs : List Val)
  deriving Inhabited

/-- what a piece of code comes to -/
inductive Res (α : Type) where
  | ok (a : α)
  | exn (c : Str) (fs : List (Str × Val))
  | stuck

def Res.bind {α β : Type} : Res α → (α → Res β) → Res β
  | .ok a, f => f a
  | .exn c fs, _ => .exn c fs
  | .stuck, _ => .stuck

instance : Monad Res where
  pure := .ok
  bind := Res.bind

abbrev Cells := List Val
def M (α : Type) := Cells → Res α × Cells
def M.bind {α β : Type} (m : M α) (f : α → M β) : M β := fun S =>
  match m S with
  | (.ok a, S1) => f a S1
  | (.exn c fs, S1) => (.exn c fs, S1)
  | (.stuck, S1) => (.stuck, S1)
instance : Monad M where
  pure a := fun S => (.ok a, S)
  bind := M.bind
/-- a stateless piece -/
def lift {α : Type} (r : Res α) : M α := fun S => (r, S)

/-! ### what stands in the heap for a tree -/
section
variable (K : PySem.W.Frag) (mg : Str → Option Value) (κ : List Addr) (G : Hp)
mutual
def Rep : Val → V → Prop
  | .non, v => v = .non
  | .bl b, v => v = .bl b
  | .int i, v => v = .int i
  | .str x, v => v = .str x
  | .tup xs, v => ∃ a vs, v = .ref a ∧ SqT K G a vs ∧ RepL xs vs
  | .lst xs, v => ∃ a vs, v = .ref a ∧ G a = some (.lst vs) ∧ RepL xs vs
  | .dic kvs, v => ∃ a vs, v = .ref a ∧ Rd G a (.dK vs) ∧ RepD kvs vs
  | .obj C fs, v => ∃ a Ca dx vs, v = .ref a ∧ mg C = some (.ref Ca) ∧ G a = some (.ins Ca dx vs) ∧ RepF fs vs
  | .cell n, v => ∃ a, κ[n]? = some a ∧ v = .ref a
  | .scr xs, v => ∃ a vs, v = .ref a ∧ SqL K G a vs ∧ RepL xs vs
def RepL : List Val → List V → Prop
  | [], vs => vs = []
  | x :: xs, vs => ∃ v r, vs = v :: r ∧ Rep x v ∧ RepL xs r
def RepD : List (Key × Val) → List (Key × V) → Prop
  | [], vs => vs = []
  | x :: xs, vs => ∃ v r, vs = (x.1, v) :: r ∧ Rep x.2 v ∧ RepD xs r
def RepF : List (Str × Val) → List (Str × V) → Prop
  | [], vs => vs = []
  | x :: xs, vs => ∃ v r, vs = (x.1, v) :: r ∧ Rep x.2 v ∧ RepF xs r
end
end

/-- the heap grows -/
def Le (G G' : Hp) : Prop := ∀ a o, G a = some o → G' a = some o
theorem Le.refl (G : Hp) : Le G G := fun _ _ h => h
theorem Le.trans {G G1 G2 : Hp} (a : Le G G1) (b : Le G1 G2) : Le G G2 := fun x o h => b x o (a x o h)
theorem Le.sqL {K : PySem.W.Frag} {G G' : Hp} {a : Addr} {xs : List V} (e : Le G G') (h : SqL K G a xs) : SqL K G' a xs := by
  rcases h with (h | ⟨o, h⟩) | h
  · exact .inl (.inl (e _ _ h))
  · exact .inl (.inr ⟨o, e _ _ h⟩)
  · exact .inr h
theorem Le.sqT {K : PySem.W.Frag} {G G' : Hp} {a : Addr} {xs : List V} (e : Le G G') (h : SqT K G a xs) : SqT K G' a xs := by
  rcases h with (h | ⟨o, h⟩) | h
  · exact .inl (.inl (e _ _ h))
  · exact .inl (.inr ⟨o, e _ _ h⟩)
  · exact .inr h

theorem Le.rd {G G' : Hp} {a : Addr} {o : HO} (e : Le G G') (h : Rd G a o) : Rd G' a o := by
  rcases h with h | ⟨ob, h⟩
  · exact .inl (e _ _ h)
  · exact .inr ⟨ob, e _ _ h⟩

/-- the cells' addresses grow -/
def Pre (κ κ' : List Addr) : Prop := ∀ (n : Nat) a, κ[n]? = some a → κ'[n]? = some a
theorem Pre.refl (κ : List Addr) : Pre κ κ := fun _ _ h => h
theorem Pre.trans {κ κ1 κ2 : List Addr} (a : Pre κ κ1) (b : Pre κ1 κ2) : Pre κ κ2 := fun x o h => b x o (a x o h)

section
variable {K : PySem.W.Frag} {mg : Str → Option Value} {κ κ' : List Addr} {G G' : Hp}
mutual
theorem Rep.mono (hk : Pre κ κ') (hG : Le G G') : ∀ {x : Val} {v : V}, Rep K mg κ G x v → Rep K mg κ' G' x v
  | .non, _, h => by unfold Rep at h ⊢; exact h
  | .bl _, _, h => by unfold Rep at h ⊢; exact h
  | .int _, _, h => by unfold Rep at h ⊢; exact h
  | .str _, _, h => by unfold Rep at h ⊢; exact h
  | .tup xs, _, h => by
    unfold Rep at h ⊢
    obtain ⟨a, vs, e, q, r⟩ := h
    exact ⟨a, vs, e, hG.sqT q, RepL.mono hk hG r⟩
  | .lst xs, _, h => by
    unfold Rep at h ⊢
    obtain ⟨a, vs, e, q, r⟩ := h
    exact ⟨a, vs, e, hG _ _ q, RepL.mono hk hG r⟩
  | .dic xs, _, h => by
    unfold Rep at h ⊢
    obtain ⟨a, vs, e, q, r⟩ := h
    exact ⟨a, vs, e, hG.rd q, RepD.mono hk hG r⟩
  | .obj _ xs, _, h => by
    unfold Rep at h ⊢
    obtain ⟨a, Ca, dx, vs, e, c, q, r⟩ := h
    exact ⟨a, Ca, dx, vs, e, c, hG _ _ q, RepF.mono hk hG r⟩
  | .cell _, _, h => by
    unfold Rep at h ⊢
    obtain ⟨a, q, e⟩ := h
    exact ⟨a, hk _ _ q, e⟩
  | .scr xs, _, h => by
    unfold Rep at h ⊢
    obtain ⟨a, vs, e, q, r⟩ := h
    exact ⟨a, vs, e, hG.sqL q, RepL.mono hk hG r⟩
theorem RepL.mono (hk : Pre κ κ') (hG : Le G G') : ∀ {xs : List Val} {vs : List V}, RepL K mg κ G xs vs → RepL K mg κ' G' xs vs
  | [], _, h => by unfold RepL at h ⊢; exact h
  | x :: xs, _, h => by
    unfold RepL at h ⊢
    obtain ⟨v, r, e, q, t⟩ := h
    exact ⟨v, r, e, Rep.mono hk hG q, RepL.mono hk hG t⟩
theorem RepD.mono (hk : Pre κ κ') (hG : Le G G') : ∀ {xs : List (Key × Val)} {vs : List (Key × V)}, RepD K mg κ G xs vs → RepD K mg κ' G' xs vs
  | [], _, h => by unfold RepD at h ⊢; exact h
  | x :: xs, _, h => by
    unfold RepD at h ⊢
    obtain ⟨v, r, e, q, t⟩ := h
    exact ⟨v, r, e, Rep.mono hk hG q, RepD.mono hk hG t⟩
theorem RepF.mono (hk : Pre κ κ') (hG : Le G G') : ∀ {xs : List (Str × Val)} {vs : List (Str × V)}, RepF K mg κ G xs vs → RepF K mg κ' G' xs vs
  | [], _, h => by unfold RepF at h ⊢; exact h
  | x :: xs, _, h => by
    unfold RepF at h ⊢
    obtain ⟨v, r, e, q, t⟩ := h
    exact ⟨v, r, e, Rep.mono hk hG q, RepF.mono hk hG t⟩
end
theorem RepL.length : ∀ {xs : List Val} {vs : List V}, RepL K mg κ G xs vs → vs.length = xs.length
  | [], _, h => by unfold RepL at h; subst h; rfl
  | x :: xs, _, h => by
    unfold RepL at h
    obtain ⟨v, r, e, _, t⟩ := h
    subst e
    simp [RepL.length t]
theorem RepL.get : ∀ {xs : List Val} {vs : List V}, RepL K mg κ G xs vs → ∀ {i : Nat} {x : Val}, xs[i]? = some x → ∃ v, vs[i]? = some v ∧ Rep K mg κ G x v
  | [], _, _, i, x, e => by simp at e
  | y :: xs, _, h, 0, x, e => by
    unfold RepL at h
    obtain ⟨v, r, e', q, t⟩ := h
    subst e'
    simp at e; subst e
    exact ⟨v, rfl, q⟩
  | y :: xs, _, h, i + 1, x, e => by
    unfold RepL at h
    obtain ⟨v, r, e', q, t⟩ := h
    subst e'
    simpa using RepL.get t (i := i) (by simpa using e)
theorem RepL.append : ∀ {xs ys : List Val} {vs ws : List V}, RepL K mg κ G xs vs → RepL K mg κ G ys ws → RepL K mg κ G (xs ++ ys) (vs ++ ws)
  | [], _, _, _, h, h' => by unfold RepL at h; subst h; exact h'
  | y :: xs, _, _, _, h, h' => by
    unfold RepL at h
    obtain ⟨v, r, e', q, t⟩ := h
    subst e'
    show RepL K mg κ G (y :: (xs ++ _)) (v :: (r ++ _))
    unfold RepL
    exact ⟨v, _, rfl, q, RepL.append t h'⟩
theorem RepL.nil : RepL K mg κ G [] [] := by unfold RepL; rfl
theorem RepL.cons {x : Val} {v : V} {xs : List Val} {vs : List V} (h : Rep K mg κ G x v) (t : RepL K mg κ G xs vs) : RepL K mg κ G (x :: xs) (v :: vs) := by
  unfold RepL; exact ⟨v, vs, rfl, h, t⟩
end
end Tv

namespace Tv
open PySem L2

section
variable (K : PySem.W.Frag) (mg : Str → Option Value)
/-- a cell's content -/
def CRep (κ : List Addr) (G H : Hp) (a : Addr) : Val → Prop
  | .lst xs => ∃ vs, H a = some (.lst vs) ∧ RepL K mg κ G xs vs
  | .obj C fs => ∃ Ca dx vs, mg C = some (.ref Ca) ∧ H a = some (.ins Ca dx vs) ∧ RepF K mg κ G fs vs
  | .dic kvs => ∃ vs, H a = some (.dK vs) ∧ RepD K mg κ G kvs vs
  | _ => False
structure Wd (κ : List Addr) (G H : Hp) (S : Cells) : Prop where
  le : Le G H
  nd : κ.Nodup
  ap : ∀ a ∈ κ, G a = none
  len : κ.length = S.length
  cel : ∀ (n : Nat) a c, κ[n]? = some a → S[n]? = some c → CRep K mg κ G H a c
/-- from one state to a later one -/
structure Ext (κ : List Addr) (G H : Hp) (κ' : List Addr) (G' H' : Hp) (S' : Cells) : Prop where
  pre : Pre κ κ'
  le : Le G G'
  keep : ∀ a o, H a = some o → a ∉ κ → H' a = some o
  newG : ∀ a, H a ≠ none → G a = none → G' a = none
  newC : ∀ a ∈ κ', a ∉ κ → H a = none
  w : Wd K mg κ' G' H' S'
/-- the same, with no cell touched if p -/
structure ExtB (p : Bool) (κ : List Addr) (G H : Hp) (S : Cells) (κ' : List Addr) (G' H' : Hp) (S' : Cells) : Prop where
  e : Ext K mg κ G H κ' G' H' S'
  p : p = true → κ' = κ ∧ S' = S ∧ Le H H'
end
section
variable {K : PySem.W.Frag} {mg : Str → Option Value} {κ κ1 κ2 : List Addr} {G G1 G2 H H1 H2 : Hp} {S S1 S2 : Cells}
theorem CRep.there {a : Addr} : ∀ {c : Val}, CRep K mg κ G H a c → H a ≠ none
  | .lst xs, h => by obtain ⟨vs, e, _⟩ := h; rw [e]; exact fun z => nomatch z
  | .obj C fs, h => by obtain ⟨_, _, vs, _, e, _⟩ := h; rw [e]; exact fun z => nomatch z
  | .dic kvs, h => by obtain ⟨vs, e, _⟩ := h; rw [e]; exact fun z => nomatch z
  | .non, h => h.elim
  | .bl _, h => h.elim
  | .int _, h => h.elim
  | .str _, h => h.elim
  | .tup _, h => h.elim
  | .cell _, h => h.elim
  | .scr _, h => h.elim
theorem Wd.there (w : Wd K mg κ G H S) {a : Addr} (h : a ∈ κ) : H a ≠ none := by
  obtain ⟨n, hn⟩ := List.mem_iff_getElem?.mp h
  have hl : n < S.length := by
    have := (List.getElem?_eq_some_iff.mp hn).1
    rw [w.len] at this; exact this
  exact (w.cel n a _ hn (List.getElem?_eq_getElem hl)).there
theorem Pre.mem (h : Pre κ κ1) {a : Addr} (m : a ∈ κ) : a ∈ κ1 := by
  obtain ⟨n, hn⟩ := List.mem_iff_getElem?.mp m
  exact List.mem_iff_getElem?.mpr ⟨n, h n a hn⟩
theorem Ext.refl (w : Wd K mg κ G H S) : Ext K mg κ G H κ G H S :=
  ⟨Pre.refl _, Le.refl _, fun _ _ h _ => h, fun _ _ h => h, fun _ h n => absurd h n, w⟩
theorem Ext.trans (a : Ext K mg κ G H κ1 G1 H1 S1) (b : Ext K mg κ1 G1 H1 κ2 G2 H2 S2) : Ext K mg κ G H κ2 G2 H2 S2 where
  pre := a.pre.trans b.pre
  le := a.le.trans b.le
  keep := fun x o h n => b.keep x o (a.keep x o h n) fun m => by
    rw [a.newC x m n] at h; cases h
  newG := fun x h g => b.newG x (by
    by_cases m : x ∈ κ
    · exact a.w.there (a.pre.mem m)
    · intro z
      cases e : H x with
      | none => exact h e
      | some o => rw [a.keep x o e m] at z; cases z) (a.newG x h g)
  newC := fun x m n => by
    by_cases q : x ∈ κ1
    · exact a.newC x q n
    · have z := b.newC x m q
      cases e : H x with
      | none => rfl
      | some o => rw [a.keep x o e n] at z; cases z
  w := b.w
theorem ExtB.refl {p : Bool} (w : Wd K mg κ G H S) : ExtB K mg p κ G H S κ G H S := ⟨Ext.refl w, fun _ => ⟨rfl, rfl, Le.refl _⟩⟩
theorem ExtB.trans {p : Bool} (a : ExtB K mg p κ G H S κ1 G1 H1 S1) (b : ExtB K mg p κ1 G1 H1 S1 κ2 G2 H2 S2) : ExtB K mg p κ G H S κ2 G2 H2 S2 :=
  ⟨a.e.trans b.e, fun h => by
    obtain ⟨a1, a2, a3⟩ := a.p h
    obtain ⟨b1, b2, b3⟩ := b.p h
    exact ⟨b1.trans a1, b2.trans a2, a3.trans b3⟩⟩
theorem ExtB.weak {p : Bool} (a : ExtB K mg p κ G H S κ1 G1 H1 S1) : ExtB K mg false κ G H S κ1 G1 H1 S1 := ⟨a.e, fun z => nomatch z⟩
end

/-! ### the slots of a frame -/
inductive Slot where
  | un
  | fz (x : Val)
  | o1 (xs : List Val)
  | o2 (xss : List (List Val))
  | od (kvs : List (Key × Val))
  | oi (a : Addr) (C : Str) (fs : List (Str × Val))
  deriving Inhabited
abbrev Env := List Slot
section
variable (K : PySem.W.Frag) (mg : Str → Option Value)
def Rows (κ : List Addr) (G H : Hp) : List (List Val) → List Addr → Prop
  | [], as => as = []
  | xs :: xss, as => ∃ a r vs, as = a :: r ∧ H a = some (.lst vs) ∧ RepL K mg κ G xs vs ∧ Rows κ G H xss r
def SlotOk (κ : List Addr) (G H : Hp) : Slot → Option V → List Addr → Prop
  | .un, _, L => L = []
  | .fz x, ov, L => L = [] ∧ ∃ v, ov = some v ∧ Rep K mg κ G x v
  | .o1 xs, ov, L => ∃ a vs, L = [a] ∧ ov = some (.ref a) ∧ H a = some (.lst vs) ∧ RepL K mg κ G xs vs
  | .o2 xss, ov, L => ∃ a as, L = a :: as ∧ ov = some (.ref a) ∧ H a = some (.lst (as.map .ref)) ∧ Rows K mg κ G H xss as
  | .od kvs, ov, L => ∃ a vs, L = [a] ∧ ov = some (.ref a) ∧ H a = some (.dK vs) ∧ RepD K mg κ G kvs vs
  | .oi a C fs, ov, L => ∃ Ca dx vs, L = [a] ∧ ov = some (.ref a) ∧ mg C = some (.ref Ca) ∧ H a = some (.ins Ca dx vs) ∧ RepF K mg κ G fs vs
def SlotsOk (κ : List Addr) (G H : Hp) : Env → St → List Addr → Prop
  | [], σ, L => σ = [] ∧ L = []
  | s :: E, σ, L => ∃ ov r L1 L2, σ = ov :: r ∧ L = L1 ++ L2 ∧ SlotOk K mg κ G H s ov L1 ∧ SlotsOk κ G H E r L2
/-- where a body was entered; what is frozen for good -/
structure Bs where
  κ : List Addr
  G : Hp
  H : Hp
  S : Cells
  κf : List Addr
  Gf : Hp
structure ExtS (b : Bool) (B0 : Bs) (κ : List Addr) (G H : Hp) (S : Cells) : Prop where
  x : ExtB K mg b B0.κ B0.G B0.H B0.S κ G H S
  pf : Pre B0.κf κ
  lf : Le B0.Gf G
/-- the state of a body: entered at B0 -/
def Sat (b : Bool) (B0 : Bs) (E : Env) (S : Cells) (κ : List Addr) (G : Hp) (σ : St) (H : Hp) : Prop :=
  ExtS K mg b B0 κ G H S ∧ ∃ L, SlotsOk K mg κ G H E σ L ∧ L.Nodup ∧ ∀ a ∈ L, B0.H a = none ∧ G a = none ∧ a ∉ κ ∧ H a ≠ none
end
section
variable {K : PySem.W.Frag} {mg : Str → Option Value} {κ κ1 κ2 : List Addr} {G G1 G2 H H1 H2 : Hp} {S S1 S2 : Cells}
theorem Rows.mono (hk : Pre κ κ1) (hG : Le G G1) : ∀ {xss : List (List Val)} {as : List Addr}, Rows K mg κ G H xss as → (∀ a ∈ as, H1 a = H a) → Rows K mg κ1 G1 H1 xss as
  | [], _, h, _ => h
  | xs :: xss, _, h, q => by
    obtain ⟨a, r, vs, e, e1, e2, e3⟩ := h
    subst e
    exact ⟨a, r, vs, rfl, (q a (by simp)).trans e1, e2.mono hk hG, Rows.mono hk hG e3 fun b hb => q b (by simp [hb])⟩
theorem SlotOk.mono (hk : Pre κ κ1) (hG : Le G G1) : ∀ {s : Slot} {ov : Option V} {L : List Addr}, SlotOk K mg κ G H s ov L → (∀ a ∈ L, H1 a = H a) → SlotOk K mg κ1 G1 H1 s ov L
  | .un, _, _, h, _ => h
  | .fz x, _, _, ⟨e, v, h, r⟩, _ => ⟨e, v, h, r.mono hk hG⟩
  | .o1 xs, _, _, h, q => by
    obtain ⟨a, vs, e, e1, e2, e3⟩ := h
    subst e
    exact ⟨a, vs, rfl, e1, (q a (by simp)).trans e2, e3.mono hk hG⟩
  | .o2 xss, _, _, h, q => by
    obtain ⟨a, vs, e, e1, e2, e3⟩ := h
    subst e
    exact ⟨a, vs, rfl, e1, (q a (by simp)).trans e2, e3.mono hk hG fun b hb => q b (by simp [hb])⟩
  | .od xs, _, _, h, q => by
    obtain ⟨a, vs, e, e1, e2, e3⟩ := h
    subst e
    exact ⟨a, vs, rfl, e1, (q a (by simp)).trans e2, e3.mono hk hG⟩
  | .oi a C xs, _, _, h, q => by
    obtain ⟨Ca, dx, vs, e, e1, c, e2, e3⟩ := h
    subst e
    exact ⟨Ca, dx, vs, rfl, e1, c, (q a (by simp)).trans e2, e3.mono hk hG⟩
theorem SlotsOk.mono (hk : Pre κ κ1) (hG : Le G G1) : ∀ {E : Env} {σ : St} {L : List Addr}, SlotsOk K mg κ G H E σ L → (∀ a ∈ L, H1 a = H a) → SlotsOk K mg κ1 G1 H1 E σ L
  | [], _, _, h, _ => h
  | s :: E, _, _, h, q => by
    obtain ⟨ov, r, L1, L2, e1, e2, h1, h2⟩ := h
    subst e1 e2
    exact ⟨ov, r, L1, L2, rfl, rfl, h1.mono hk hG fun a m => q a (by simp [m]), SlotsOk.mono hk hG h2 fun a m => q a (by simp [m])⟩
variable {b : Bool} {B0 : Bs} {E : Env} {σ : St}
/-- an expression has been evaluated -/
theorem ExtS.trans (a : ExtS K mg b B0 κ G H S) (c : ExtB K mg b κ G H S κ1 G1 H1 S1) : ExtS K mg b B0 κ1 G1 H1 S1 := ⟨a.x.trans c, a.pf.trans c.e.pre, a.lf.trans c.e.le⟩
theorem ExtS.weak (a : ExtS K mg b B0 κ G H S) : ExtS K mg false B0 κ G H S := ⟨a.x.weak, a.pf, a.lf⟩
theorem Sat.ext (h : Sat K mg b B0 E S κ G σ H) (eb : ExtB K mg b κ G H S κ1 G1 H1 S1) : Sat K mg b B0 E S1 κ1 G1 σ H1 := by
  obtain ⟨x, L, so, nd, q⟩ := h
  have e := eb.e
  refine ⟨x.trans eb, L, so.mono e.pre e.le fun a m => ?_, nd, fun a m => ?_⟩
  · obtain ⟨_, _, n, t⟩ := q a m
    cases z : H a with
    | none => exact absurd z t
    | some o => exact e.keep a o z n
  · obtain ⟨q1, q2, q3, q4⟩ := q a m
    refine ⟨q1, e.newG a q4 q2, fun z => q4 (e.newC a z q3), fun z => ?_⟩
    cases y : H a with
    | none => exact q4 y
    | some o => rw [e.keep a o y q3] at z; cases z
theorem SlotsOk.get : ∀ {E : Env} {σ : St} {L : List Addr}, SlotsOk K mg κ G H E σ L → ∀ {i : Nat} {s : Slot}, E[i]? = some s → ∃ ov L1, σ[i]? = some ov ∧ SlotOk K mg κ G H s ov L1 ∧ (∀ a ∈ L1, a ∈ L)
  | [], _, _, _, i, s, e => by simp at e
  | s :: E, _, _, h, 0, t, e => by
    obtain ⟨ov, r, L1, L2, e1, e2, h1, h2⟩ := h
    subst e1 e2
    simp at e; subst e
    exact ⟨ov, L1, rfl, h1, fun a m => by simp [m]⟩
  | s :: E, _, _, h, i + 1, t, e => by
    obtain ⟨ov, r, L1, L2, e1, e2, h1, h2⟩ := h
    subst e1 e2
    obtain ⟨ov', L', q1, q2, q3⟩ := SlotsOk.get h2 (i := i) (by simpa using e)
    exact ⟨ov', L', by simpa using q1, q2, fun a m => by simp [q3 a m]⟩
/-- a slot is set anew, what it owned is let go -/
theorem SlotsOk.set : ∀ {E : Env} {σ : St} {L : List Addr}, SlotsOk K mg κ G H E σ L → ∀ {i : Nat} {s : Slot} {ov : Option V} {L1 : List Addr}, i < E.length → SlotOk K mg κ G H s ov L1 →
    ∃ L2, SlotsOk K mg κ G H (E.set i s) (σ.set i ov) L2 ∧ ((∀ a ∈ L1, a ∉ L) → L1.Nodup → L.Nodup → L2.Nodup) ∧ (∀ a ∈ L2, a ∈ L ∨ a ∈ L1)
  | [], _, _, _, i, _, _, _, hi, _ => by simp at hi
  | s :: E, _, _, h, 0, t, ov', L', hi, h' => by
    obtain ⟨ov, r, L1, L2, e1, e2, h1, h2⟩ := h
    subst e1 e2
    refine ⟨L' ++ L2, ⟨ov', r, L', L2, rfl, rfl, h', h2⟩, fun q n m => ?_, fun a m => ?_⟩
    · refine List.nodup_append.mpr ⟨n, (List.nodup_append.mp m).2.1, fun a ha b hb e => ?_⟩
      subst e
      exact q a ha (by simp [hb])
    · rcases List.mem_append.mp m with m | m
      · exact .inr m
      · exact .inl (by simp [m])
  | s :: E, _, _, h, i + 1, t, ov', L', hi, h' => by
    obtain ⟨ov, r, L1, L2, e1, e2, h1, h2⟩ := h
    subst e1 e2
    obtain ⟨L3, q1, q2, q3⟩ := SlotsOk.set h2 (i := i) (by simpa using hi) h'
    refine ⟨L1 ++ L3, ⟨ov, r.set i ov', L1, L3, rfl, rfl, h1, q1⟩, fun q n m => ?_, fun a m => ?_⟩
    · obtain ⟨m1, m2, m3⟩ := List.nodup_append.mp m
      refine List.nodup_append.mpr ⟨m1, q2 (fun a ha hb => q a ha (by simp [hb])) n m2, fun a ha b hb e => ?_⟩
      subst e
      rcases q3 a hb with z | z
      · exact m3 a ha a z rfl
      · exact q a z (by simp [ha])
    · rcases List.mem_append.mp m with m | m
      · exact .inl (by simp [m])
      · rcases q3 a m with z | z
        · exact .inl (by simp [z])
        · exact .inr z
theorem SlotsOk.length : ∀ {E : Env} {σ : St} {L : List Addr}, SlotsOk K mg κ G H E σ L → σ.length = E.length
  | [], _, _, h => by rw [h.1]; rfl
  | s :: E, _, _, h => by
    obtain ⟨ov, r, L1, L2, e1, e2, h1, h2⟩ := h
    subst e1
    simp [SlotsOk.length h2]
theorem Sat.weak (h : Sat K mg b B0 E S κ G σ H) : Sat K mg false B0 E S κ G σ H := by
  obtain ⟨x, r⟩ := h
  exact ⟨x.weak, r⟩
theorem Sat.w (h : Sat K mg b B0 E S κ G σ H) : Wd K mg κ G H S := h.1.x.e.w
/-- a name takes a frozen value -/
theorem Sat.setFz (h : Sat K mg b B0 E S κ G σ H) {i : Nat} {x : Val} {v : V} (hi : i < E.length) (r : Rep K mg κ G x v) : Sat K mg b B0 (E.set i (.fz x)) S κ G (σ.set i (some v)) H := by
  obtain ⟨e, L, so, nd, q⟩ := h
  obtain ⟨L2, s2, n2, m2⟩ := so.set (i := i) (s := .fz x) (ov := some v) (L1 := []) hi ⟨rfl, v, rfl, r⟩
  exact ⟨e, L2, s2, n2 (fun _ z => nomatch z) List.nodup_nil nd, fun a m => (m2 a m).elim (q a) fun z => nomatch z⟩
/-- what is known of a slot is forgotten -/
theorem Sat.forget (h : Sat K mg b B0 E S κ G σ H) {i : Nat} : Sat K mg b B0 (E.set i .un) S κ G σ H := by
  obtain ⟨e, L, so, nd, q⟩ := h
  by_cases hi : i < E.length
  · have hs : i < σ.length := by rw [so.length]; exact hi
    obtain ⟨L2, s2, n2, m2⟩ := so.set (i := i) (s := .un) (ov := σ[i]) (L1 := []) hi rfl
    rw [List.set_getElem_self] at s2
    exact ⟨e, L2, s2, n2 (fun _ z => nomatch z) List.nodup_nil nd, fun a m => (m2 a m).elim (q a) fun z => nomatch z⟩
  · rw [List.set_eq_of_length_le (by omega)]
    exact ⟨e, L, so, nd, q⟩
end
end Tv

namespace Tv
open PySem L2

/-- an exception that no one lets out -/
def noExn {α : Type} (r : M α) : M α := fun S => match r S with
  | (.exn _ _, S') => (.stuck, S')
  | q => q
def noExnR {α : Type} : Res α → Res α
  | .exn _ _ => .stuck
  | q => q
/-- the two kinds of pieces: without and with cells -/
class Mon (m : Type → Type) extends Monad m where
  run : {α : Type} → m α → M α
  run_pure : ∀ {α : Type} (a : α), run (Pure.pure a) = (Pure.pure a : M α)
  run_bind : ∀ {α β : Type} (x : m α) (f : α → m β), run (x >>= f) = (run x >>= fun a => run (f a))
  of : {α : Type} → Res α → m α
  run_of : ∀ {α : Type} (r : Res α), run (of r) = lift r
  nx : {α : Type} → m α → m α
  run_nx : ∀ {α : Type} (r : m α), run (nx r) = noExn (run r)
  pu : Bool
theorem lift_bind {α β : Type} (x : Res α) (f : α → Res β) : lift (x >>= f) = (lift x >>= fun a => lift (f a)) := by
  funext S
  cases x <;> rfl
instance : Mon Res where
  run := lift
  run_pure := fun _ => rfl
  run_bind := lift_bind
  of := id
  run_of := fun _ => rfl
  nx := noExnR
  run_nx := fun r => by funext S; cases r <;> rfl
  pu := true
instance : Mon M where
  run := id
  run_pure := fun _ => rfl
  run_bind := fun _ _ => rfl
  of := lift
  run_of := fun _ => rfl
  nx := noExn
  run_nx := fun _ => rfl
  pu := false

section
variable (K : PySem.W.Frag) (mg : Str → Option Value)
/-- an exception: its class by name, its fields -/
def ERep (κ : List Addr) (G : Hp) (c : Str) (fs : List (Str × Val)) (cls : Value) (d : Option Addr) : Prop :=
  ∃ C, mg c = some (.ref C) ∧ cls = .ref C ∧ ((fs = [] ∧ d = none) ∨ ∃ dx vs, d = some dx ∧ G dx = some (.xd vs) ∧ RepF K mg κ G fs vs)
def Post {α γ : Type} (p : Bool) (R : List Addr → Hp → α → γ → Prop) (κ : List Addr) (G H : Hp) (S : Cells) (r : Res α × Cells) (Q : γ → Hp → Prop) (W : Value → Option Addr → Hp → Prop) : Prop :=
  match r with
  | (.ok x, S') => ∀ κ' G' H' v, ExtB K mg p κ G H S κ' G' H' S' → R κ' G' x v → Q v H'
  | (.exn c fs, S') => ∀ κ' G' H' cls d, ExtB K mg p κ G H S κ' G' H' S' → ERep K mg κ' G' c fs cls d → W cls d H'
  | (.stuck, _) => False
end
section
variable {K : PySem.W.Frag} {mg : Str → Option Value} {κ κ1 κ2 : List Addr} {G G1 G2 H H1 H2 : Hp} {S S1 S2 : Cells} {p : Bool}
variable {α β γ δ : Type} {R : List Addr → Hp → α → γ → Prop} {R2 : List Addr → Hp → β → δ → Prop} {Q : γ → Hp → Prop} {Q2 : δ → Hp → Prop} {W : Value → Option Addr → Hp → Prop}
theorem Post.step {r : Res α × Cells} (e : ExtB K mg p κ G H S κ1 G1 H1 S1) (h : Post K mg p R κ G H S r Q W) : Post K mg p R κ1 G1 H1 S1 r Q W := by
  obtain ⟨r, S'⟩ := r
  cases r with
  | ok x => exact fun κ' G' H' v e' => h κ' G' H' v (e.trans e')
  | exn c fs => exact fun κ' G' H' cls d e' => h κ' G' H' cls d (e.trans e')
  | stuck => exact h
theorem Post.bind {m : M α} {f : α → M β} (h : Post K mg p R2 κ G H S ((m >>= f) S) Q2 W) :
    Post K mg p R κ G H S (m S) (fun v H1 => ∃ x κ1 G1 S1, ExtB K mg p κ G H S κ1 G1 H1 S1 ∧ R κ1 G1 x v ∧ Post K mg p R2 κ1 G1 H1 S1 (f x S1) Q2 W) W := by
  have e : (m >>= f) S = M.bind m f S := rfl
  rw [e] at h
  unfold M.bind at h
  cases q : m S with
  | mk r S' =>
    rw [q] at h
    cases r with
    | ok x => exact fun κ' G' H' v e' r' => ⟨x, κ', G', S', e', r', Post.step e' h⟩
    | exn c fs => exact h
    | stuck => exact h
theorem Post.ok {x : α} {v : γ} (w : Wd K mg κ G H S) (r : R κ G x v) (h : Post K mg p R κ G H S (.ok x, S) Q W) : Q v H := h κ G H v (ExtB.refl w) r
end

/-! ### readings by what they mean -/
structure WE (X : Cx) (e : Expr) (σ : St) (H : Hp) (Q : VK) : Prop where
  run : ∀ (pins : List (Addr × Obj)) (s : Shared), L2.Inv X pins σ H s → wpAny (model X.prog X.w) X.A (eval e X.env) (EP X pins σ Q) X.xe s
theorem pe_self {X : Cx} {e : Expr} : PE X e (WE X e) := ⟨fun pins s _ _ _ I h => h.run pins s I⟩
theorem we_of {X : Cx} {e : Expr} {t : TE} (h : PE X e t) {σ : St} {H : Hp} {Q : VK} (q : t σ H Q) : WE X e σ H Q := ⟨fun pins s I => h.run pins s σ H Q I q⟩
structure WT (X : Cx) (e : Expr) (σ : St) (H : Hp) (Q : Bool → Hp → Prop) : Prop where
  run : ∀ (pins : List (Addr × Obj)) (s : Shared), L2.Inv X pins σ H s → wpAny (model X.prog X.w) X.A (isTrue e X.env (eval e X.env)) (TP X pins σ Q) X.xe s
theorem pt_self {X : Cx} {e : Expr} : PT X e (WT X e) := ⟨fun pins s _ _ _ I h => h.run pins s I⟩
theorem wt_of {X : Cx} {e : Expr} {t : TT} (h : PT X e t) {σ : St} {H : Hp} {Q : Bool → Hp → Prop} (q : t σ H Q) : WT X e σ H Q := ⟨fun pins s I => h.run pins s σ H Q I q⟩
structure WA (X : Cx) (es : List Expr) (σ : St) (H : Hp) (Q : List V → Hp → Prop) : Prop where
  run : ∀ (pos : Pos) (pins : List (Addr × Obj)) (s : Shared), L2.Inv X pins σ H s → wpAny (model X.prog X.w) X.A (spliced (backTo pos (starEach es X.env))) (AP X pins σ Q) X.xe s
theorem pa_self {X : Cx} {e : List Expr} : PA X e (WA X e) := ⟨fun pos pins s _ _ _ I h => h.run pos pins s I⟩
theorem wa_of {X : Cx} {e : List Expr} {t : TA} (h : PA X e t) {σ : St} {H : Hp} {Q : List V → Hp → Prop} (q : t σ H Q) : WA X e σ H Q := ⟨fun pos pins s I => h.run pos pins s σ H Q I q⟩
structure WS (X : Cx) (st : Stmt) (D : Ends) (σ : St) (H : Hp) : Prop where
  run : ∀ (pins : List (Addr × Obj)) (s : Shared), L2.Inv X pins σ H s → wpAny (model X.prog X.w) X.A (exec st X.env) (SP X pins D) X.xe s
theorem ps_self {X : Cx} {e : Stmt} : PS X e (WS X e) := ⟨fun pins s _ _ _ I h => h.run pins s I⟩
theorem ws_of {X : Cx} {e : Stmt} {t : TS} (h : PS X e t) {σ : St} {H : Hp} {D : Ends} (q : t D σ H) : WS X e D σ H := ⟨fun pins s I => h.run pins s σ H D I q⟩
structure WSs (X : Cx) (st : List Stmt) (D : Ends) (σ : St) (H : Hp) : Prop where
  run : ∀ (pins : List (Addr × Obj)) (s : Shared), L2.Inv X pins σ H s → wpAny (model X.prog X.w) X.A (execs st X.env) (SP X pins D) X.xe s
theorem pss_self {X : Cx} {e : List Stmt} : PSs X e (WSs X e) := ⟨fun pins s _ _ _ I h => h.run pins s I⟩
theorem wss_of {X : Cx} {e : List Stmt} {t : TS} (h : PSs X e t) {σ : St} {H : Hp} {D : Ends} (q : t D σ H) : WSs X e D σ H := ⟨fun pins s I => h.run pins s σ H D I q⟩
/-- an operation on values -/
def WO (X : Cx) (f : Value → Value → Sem Value) : R2 := fun x y H Q => ∀ (pins : List (Addr × Obj)) (s : Shared) (σ : St) (v u : Value), L2.Inv X pins σ H s → RelV x v → RelV y u → wpAny (model X.prog X.w) X.A (f v u) (EP X pins σ Q) X.xe s
theorem op_self {X : Cx} {f : Value → Value → Sem Value} : OpR X f (WO X f) := fun pins s σ H x y v u Q I rx ry h => h pins s σ v u I rx ry
theorem wo_of {X : Cx} {f : Value → Value → Sem Value} {r : R2} (h : OpR X f r) {x y : V} {H : Hp} {Q : VK} (q : r x y H Q) : WO X f x y H Q := fun pins s σ v u I rx ry => h pins s σ H x y v u Q I rx ry q
def WU (X : Cx) (f : Value → Sem Value) : V → Hp → VK → Prop := fun x H Q => ∀ (pins : List (Addr × Obj)) (s : Shared) (σ : St) (v : Value), L2.Inv X pins σ H s → RelV x v → wpAny (model X.prog X.w) X.A (f v) (EP X pins σ Q) X.xe s
theorem un_self {X : Cx} {f : Value → Sem Value} : UnR X f (WU X f) := fun pins s σ H x v Q I rx h => h pins s σ v I rx
theorem wu_of {X : Cx} {f : Value → Sem Value} {r : V → Hp → VK → Prop} (h : UnR X f r) {x : V} {H : Hp} {Q : VK} (q : r x H Q) : WU X f x H Q := fun pins s σ v I rx => h pins s σ H x v Q I rx q
/-- a call of a known value -/
def WC (X : Cx) (f : Value) : List V → Hp → VK → Prop := fun xs H Q => ∀ (pins : List (Addr × Obj)) (s : Shared) (σ : St) (us : List Value), L2.Inv X pins σ H s → Vals xs us → wpAny (model X.prog X.w) X.A (call f us) (EP X pins σ Q) X.xe s
theorem call_self {X : Cx} {f : Value} : CallR X f (WC X f) := fun pins s σ H xs us Q I r h => h pins s σ us I r
theorem wc_of {X : Cx} {f : Value} {r : List V → Hp → VK → Prop} (h : CallR X f r) {xs : List V} {H : Hp} {Q : VK} (q : r xs H Q) : WC X f xs H Q := fun pins s σ us I rx => h pins s σ H xs us Q I rx q
/-- a value's truth -/
def WB (X : Cx) : V → Hp → (Bool → Hp → Prop) → Prop := fun x H Q => ∀ (pins : List (Addr × Obj)) (s : Shared) (σ : St) (v : Value), L2.Inv X pins σ H s → RelV x v → wpAny (model X.prog X.w) X.A (truthy v) (TP X pins σ Q) X.xe s
theorem tru_self {X : Cx} : TruR X (WB X) := fun pins s σ H x v Q I rx h => h pins s σ v I rx
theorem wb_of {X : Cx} {r : V → Hp → (Bool → Hp → Prop) → Prop} (h : TruR X r) {x : V} {H : Hp} {Q : Bool → Hp → Prop} (q : r x H Q) : WB X x H Q := fun pins s σ v I rx => h pins s σ H x v Q I rx q

/-! ### the judgements -/
section
variable {m : Type → Type} [Mon m]
abbrev RB : List Addr → Hp → Bool → Bool → Prop := fun _ _ a b => a = b
/-- from slots E the expression e comes to r -/
def Ev (X : Cx) (E : Env) (e : Expr) (r : m Val) : Prop :=
  ∀ B0 S κ G σ H, Sat X.K X.mg false B0 E S κ G σ H → ∀ W : WX, Takes X W → ∀ Q : VK, Post X.K X.mg (Mon.pu m) (Rep X.K X.mg) κ G H S (Mon.run r S) Q (fun c d H' => W c d σ H') → WE X e σ H Q
def Et (X : Cx) (E : Env) (e : Expr) (r : m Bool) : Prop :=
  ∀ B0 S κ G σ H, Sat X.K X.mg false B0 E S κ G σ H → ∀ W : WX, Takes X W → ∀ Q : Bool → Hp → Prop, Post X.K X.mg (Mon.pu m) RB κ G H S (Mon.run r S) Q (fun c d H' => W c d σ H') → WT X e σ H Q
def Ea (X : Cx) (E : Env) (es : List Expr) (r : m (List Val)) : Prop :=
  ∀ B0 S κ G σ H, Sat X.K X.mg false B0 E S κ G σ H → ∀ W : WX, Takes X W → ∀ Q : List V → Hp → Prop, Post X.K X.mg (Mon.pu m) (RepL X.K X.mg) κ G H S (Mon.run r S) Q (fun c d H' => W c d σ H') → WA X es σ H Q
inductive Out where
  | nx (E : Env)
  | rt (x : Val)
  | rr (x : Val)
  | bk (E : Env)
  | ct (E : Env)
def PostO (K : PySem.W.Frag) (mg : Str → Option Value) (p : Bool) (B0 : Bs) (S' : Cells) (D : Ends) : Out → Prop
  | .nx E' => ∀ κ G σ H, Sat K mg p B0 E' S' κ G σ H → D.nx σ H
  | .bk E' => ∀ κ G σ H, Sat K mg p B0 E' S' κ G σ H → D.bk σ H
  | .ct E' => ∀ κ G σ H, Sat K mg p B0 E' S' κ G σ H → D.ct σ H
  | .rt x => ∀ κ G H v, ExtS K mg p B0 κ G H S' → Rep K mg κ G x v → D.rt v H
  | .rr x => (∀ κ G H v, ExtS K mg p B0 κ G H S' → Rep K mg κ G x v → D.rt v H) ∧ (x = .non → ∀ κ G σ H, ExtS K mg p B0 κ G H S' → D.nx σ H)
def PostS {ρ : Type} (K : PySem.W.Frag) (mg : Str → Option Value) (p : Bool) (B0 : Bs) (r : Res ρ × Cells) (enc : ρ → Out) (D : Ends) (W : WX) : Prop :=
  match r with
  | (.ok x, S') => PostO K mg p B0 S' D (enc x)
  | (.exn c fs, S') => ∀ κ G σ H cls d, ExtS K mg p B0 κ G H S' → ERep K mg κ G c fs cls d → W cls d σ H
  | (.stuck, _) => False
/-- blocks still to come -/
def DK (X : Cx) : List (List Stmt) → Ends → Ends
  | [], D => D
  | ss :: K, D => { DK X K D with nx := WSs X ss (DK X K D) }
/-- from slots E the block ss, then the blocks Ks, come to r, told by enc -/
def Sx {ρ : Type} (X : Cx) (E : Env) (ss : List Stmt) (Ks : List (List Stmt)) (r : m ρ) (enc : ρ → Out) : Prop :=
  ∀ B0 S κ G σ H, Sat X.K X.mg (Mon.pu m) B0 E S κ G σ H → ∀ W : WX, Takes X W → ∀ D : Ends, PostS X.K X.mg (Mon.pu m) B0 (Mon.run r S) enc D W → WSs X ss (DK X Ks D) σ H
end
theorem DK_rt {X : Cx} {D : Ends} : ∀ {Ks : List (List Stmt)}, (DK X Ks D).rt = D.rt
  | [] => rfl
  | _ :: Ks => DK_rt (Ks := Ks)
theorem DK_bk {X : Cx} {D : Ends} : ∀ {Ks : List (List Stmt)}, (DK X Ks D).bk = D.bk
  | [] => rfl
  | _ :: Ks => DK_bk (Ks := Ks)
theorem DK_ct {X : Cx} {D : Ends} : ∀ {Ks : List (List Stmt)}, (DK X Ks D).ct = D.ct
  | [] => rfl
  | _ :: Ks => DK_ct (Ks := Ks)
end Tv

namespace Tv
open PySem L2

/-! ### where a body stands -/
structure Ctx (X : Cx) (N : List Str) (sc : Scope) (k : Nat) : Prop where
  n : X.N = N
  sc : X.env.scope = sc
  calm : X.calm = true
  nd : N.Nodup
  gd : X.A.guards = some []
  room : Room k X.A
  po : PassesOwn (model X.prog X.w) X.A X.env X.xe
/-- .. a def's own frame: its cells are its own, too -/
structure CtxF (X : Cx) (N : List Str) (sc : Scope) (k : Nat) : Prop extends Ctx X N sc k where
  fn : ∀ x, X.fn x = true
def visB (sc : Scope) (x : Str) : Bool := match sc.names.lookup x with
  | some .local => true
  | some .cell => true
  | some .free => true
  | _ => false
theorem visB_ok {sc : Scope} {x : Str} (h : visB sc x = true) : Vis sc x := by
  unfold visB at h
  unfold Vis
  cases e : sc.names.lookup x with
  | none => rw [e] at h; cases h
  | some k =>
    rw [e] at h
    cases k <;> first
      | exact .inl rfl
      | exact .inr (.inl rfl)
      | exact .inr (.inr rfl)
      | cases h
def nmB (N : List Str) (sc : Scope) (i : Nat) (x : Str) : Bool := decide (N[i]? = some x) && visB sc x && !(x == ("__debug__" : Str)) && !(x == ("__classdict__" : Str))
structure Nm (N : List Str) (sc : Scope) (i : Nat) (x : Str) : Prop where
  h : nmB N sc i x = true
theorem Nm.n {N : List Str} {sc : Scope} {i : Nat} {x : Str} (m : Nm N sc i x) : N[i]? = some x ∧ Vis sc x ∧ (x == ("__debug__" : Str)) = false ∧ (x == ("__classdict__" : Str)) = false := by
  have h := m.h
  unfold nmB at h
  simp only [Bool.and_eq_true, decide_eq_true_eq, Bool.not_eq_true'] at h
  exact ⟨h.1.1.1, visB_ok h.1.1.2, h.1.2, h.2⟩
/-- a global or built-in name -/
def glB (sc : Scope) (x : Str) : Bool := decide (sc.names.lookup x = some .globalImplicit) && !(x == ("__debug__" : Str)) && !(x == ("__name__" : Str))

section
variable {X : Cx} {N : List Str} {sc : Scope} {k : Nat} {E : Env} {m : Type → Type} [Mon m]
theorem Ctx.pv (c : Ctx X N sc k) {i : Nat} {x : Str} {pos : Pos} (hn : Nm N sc i x) : PE X (.Name x pos) (tVar i) := by
  obtain ⟨h1, h2, h3, h4⟩ := hn.n
  exact pe_var (by rw [c.n]; exact h1) (by rw [c.sc]; exact h2) h3 h4
theorem Ctx.gl (c : Ctx X N sc k) {x : Str} (h : glB sc x = true) : Gl X x ∧ (x == ("__debug__" : Str)) = false ∧ x ≠ "__name__" := by
  unfold glB at h
  simp only [Bool.and_eq_true, decide_eq_true_eq, Bool.not_eq_true'] at h
  refine ⟨?_, h.1.2, fun e => ?_⟩
  · show X.env.kindOf x = some .globalImplicit
    have : X.env.kindOf x = X.env.scope.names.lookup x := rfl
    rw [this, c.sc]; exact h.1.1
  · subst e
    have := h.2
    revert this
    decide +kernel
theorem ev_cast {e : Expr} {r r' : m Val} (h : Ev X E e r) (q : r = r') : Ev X E e r' := q ▸ h
theorem sx_cast {ρ : Type} {ss : List Stmt} {Ks : List (List Stmt)} {r r' : m ρ} {enc : ρ → Out} (h : Sx X E ss Ks r enc) (q : r = r') : Sx X E ss Ks r' enc := q ▸ h

/-! ### running in a row -/
theorem Post.pure {α γ : Type} {K : PySem.W.Frag} {mg : Str → Option Value} {p : Bool} {R : List Addr → Hp → α → γ → Prop} {κ : List Addr} {G H : Hp} {S : Cells} {x : α} {v : γ} {Q : γ → Hp → Prop} {W : Value → Option Addr → Hp → Prop}
    (h : Post K mg p R κ G H S (Mon.run (m := m) (Pure.pure x) S) Q W) (w : Wd K mg κ G H S) (r : R κ G x v) : Q v H := by
  rw [Mon.run_pure] at h
  exact h κ G H v (ExtB.refl w) r
/-- a pure piece that has gone well -/
theorem Post.ofOk {α γ : Type} {K : PySem.W.Frag} {mg : Str → Option Value} {p : Bool} {R : List Addr → Hp → α → γ → Prop} {κ : List Addr} {G H : Hp} {S : Cells} {q : Res α} {Q : γ → Hp → Prop} {W : Value → Option Addr → Hp → Prop}
    (h : Post K mg p R κ G H S (Mon.run (m := m) (Mon.of q) S) Q W) : Post K mg true R κ G H S (lift q S) Q W := by
  rw [Mon.run_of] at h
  cases q with
  | ok x => exact fun κ' G' H' v e' => h κ' G' H' v ⟨e'.e, fun _ => e'.p rfl⟩
  | exn c fs => exact fun κ' G' H' cls d e' => h κ' G' H' cls d ⟨e'.e, fun _ => e'.p rfl⟩
  | stuck => exact h
theorem bindP {α β γ δ : Type} {K : PySem.W.Frag} {mg : Str → Option Value} {p : Bool} {R : List Addr → Hp → α → γ → Prop} {R2 : List Addr → Hp → β → δ → Prop} {κ : List Addr} {G H : Hp} {S : Cells} {x : m α} {f : α → m β} {Q2 : δ → Hp → Prop} {W : Value → Option Addr → Hp → Prop}
    (h : Post K mg p R2 κ G H S (Mon.run (x >>= f) S) Q2 W) :
    Post K mg p R κ G H S (Mon.run x S) (fun v H1 => ∃ a κ1 G1 S1, ExtB K mg p κ G H S κ1 G1 H1 S1 ∧ R κ1 G1 a v ∧ Post K mg p R2 κ1 G1 H1 S1 (Mon.run (f a) S1) Q2 W) W := by
  rw [Mon.run_bind] at h
  exact Post.bind h
theorem Post.mono {α γ : Type} {K : PySem.W.Frag} {mg : Str → Option Value} {p : Bool} {R : List Addr → Hp → α → γ → Prop} {κ : List Addr} {G H : Hp} {S : Cells} {r : Res α × Cells} {Q Q' : γ → Hp → Prop} {W : Value → Option Addr → Hp → Prop}
    (h : Post K mg p R κ G H S r Q W) (q : ∀ v H, Q v H → Q' v H) : Post K mg p R κ G H S r Q' W := by
  obtain ⟨r, S'⟩ := r
  cases r with
  | ok x => exact fun κ' G' H' v e' r' => q v H' (h κ' G' H' v e' r')
  | exn c fs => exact h
  | stuck => exact h
/-- the same with a rest that holds the world -/
theorem bindW {α β γ δ : Type} {K : PySem.W.Frag} {mg : Str → Option Value} {p : Bool} {R : List Addr → Hp → α → γ → Prop} {R2 : List Addr → Hp → β → δ → Prop} {κ : List Addr} {G H : Hp} {S : Cells} {x : m α} {f : α → m β} {Q2 : δ → Hp → Prop} {W : Value → Option Addr → Hp → Prop} {Q1 : γ → Hp → Prop}
    (h : Post K mg p R2 κ G H S (Mon.run (x >>= f) S) Q2 W)
    (q : ∀ a v κ1 G1 H1 S1, ExtB K mg p κ G H S κ1 G1 H1 S1 → R κ1 G1 a v → Post K mg p R2 κ1 G1 H1 S1 (Mon.run (f a) S1) Q2 W → Q1 v H1) :
    Post K mg p R κ G H S (Mon.run x S) Q1 W :=
  (bindP h).mono fun v H1 ⟨a, κ1, G1, S1, e, r, h1⟩ => q a v κ1 G1 H1 S1 e r h1

/-! ### names, constants -/
theorem ev_var (c : Ctx X N sc k) (i : Nat) {x : Str} {pos : Pos} {v : Val} (hn : Nm N sc i x) (he : E[i]? = some (.fz v) := by rfl) : Ev X E (.Name x pos) (Pure.pure v : m Val) := by
  intro B0 S κ G σ H sat W tk Q h
  have wd := sat.w
  obtain ⟨e, L, so, nd, q⟩ := sat
  obtain ⟨ov, L1, h1, ⟨hL, u, hu, r⟩, _⟩ := so.get he
  subst hu
  exact we_of (c.pv hn) ⟨u, h1, h.pure wd r⟩
theorem ev_c {e : Expr} {v : V} {x : Val} (h : PE X e (tC v)) (r : ∀ K mg κ G, Rep K mg κ G x v) : Ev X E e (Pure.pure x : m Val) := by
  intro B0 S κ G σ H sat W tk Q q
  exact we_of h (q.pure sat.w (r _ _ _ _))
theorem ev_int {i : Int} {j pos} : Ev X E (.Constant (.int i) j pos) (Pure.pure (.int i) : m Val) := ev_c pe_int fun _ _ _ _ => by unfold Rep; rfl
theorem ev_str {i : Str} {j pos} : Ev X E (.Constant (.str i) j pos) (Pure.pure (.str i) : m Val) := ev_c pe_str fun _ _ _ _ => by unfold Rep; rfl
theorem ev_bl {i : Bool} {j pos} : Ev X E (.Constant (.bool i) j pos) (Pure.pure (.bl i) : m Val) := ev_c pe_bl fun _ _ _ _ => by unfold Rep; rfl
theorem ev_non {j pos} : Ev X E (.Constant .none j pos) (Pure.pure .non : m Val) := ev_c pe_non fun _ _ _ _ => by unfold Rep; rfl
/-- a module's constant -/
theorem ev_glob (c : Ctx X N sc k) {x : Str} {pos : Pos} {u : Value} {v : V} {z : Val} (hg : glB sc x = true) (hm : X.mg x = some u) (hr : RelV v u) (r : ∀ κ G, Rep X.K X.mg κ G z v) : Ev X E (.Name x pos) (Pure.pure z : m Val) := by
  intro B0 S κ G σ H sat W tk Q q
  obtain ⟨h1, h2, h3⟩ := c.gl hg
  exact we_of (pe_glob h1 hm hr (hd := h2)) (q.pure sat.w (r _ _))

/-! ### operations on two values -/
/-- what an operation does to trees -/
def Op2 (X : Cx) (f : Value → Value → Sem Value) (g : Val → Val → Res Val) : Prop := ∀ κ G H S x y v u Q W, Wd X.K X.mg κ G H S → Rep X.K X.mg κ G x v → Rep X.K X.mg κ G y u →
  Post X.K X.mg true (Rep X.K X.mg) κ G H S (lift (g x y) S) Q W → WO X f v u H Q
theorem ev_bin {op : Operator} {g : Val → Val → Res Val} {a b : Expr} {pos : Pos} {ra rb : m Val} (hg : Op2 X (binaryOp op) g) (ha : Ev X E a ra) (hb : Ev X E b rb) :
    Ev X E (.BinOp a op b pos) (ra >>= fun x => rb >>= fun y => Mon.of (g x y)) := by
  intro B0 S κ G σ H sat W tk Q h
  refine we_of (pe_op op_self pe_self pe_self) ?_
  refine ha B0 S κ G σ H sat W tk _ (bindW h fun x v κ1 G1 H1 S1 e1 r1 h1 => ?_)
  refine hb B0 S1 κ1 G1 σ H1 (sat.ext e1.weak) W tk _ (bindW h1 fun y u κ2 G2 H2 S2 e2 r2 h2 => ?_)
  exact hg κ2 G2 H2 S2 x y v u Q _ e2.e.w (r1.mono e2.e.pre e2.e.le) r2 h2.ofOk
theorem ev_cmp {op : CmpOp} {g : Val → Val → Res Val} {a b : Expr} {pos : Pos} {ra rb : m Val} (hg : Op2 X (compareOp op) g) (hm : behindInMarks op b = false) (ha : Ev X E a ra) (hb : Ev X E b rb) :
    Ev X E (.Compare a [op] [b] pos) (ra >>= fun x => rb >>= fun y => Mon.of (g x y)) := by
  intro B0 S κ G σ H sat W tk Q h
  refine we_of (pe_cmpR op_self pe_self pe_self hm) ?_
  refine ha B0 S κ G σ H sat W tk _ (bindW h fun x v κ1 G1 H1 S1 e1 r1 h1 => ?_)
  refine hb B0 S1 κ1 G1 σ H1 (sat.ext e1.weak) W tk _ (bindW h1 fun y u κ2 G2 H2 S2 e2 r2 h2 => ?_)
  exact hg κ2 G2 H2 S2 x y v u Q _ e2.e.w (r1.mono e2.e.pre e2.e.le) r2 h2.ofOk
end
end Tv

namespace Tv
open PySem L2

/-! ### plain forms of expressions -/
def notStar : Expr → Bool
  | .Starred .. => false
  | _ => true
theorem star_of {e : Expr} (h : notStar e = true) (es : List Expr) (env : PySem.Env) : starEach (e :: es) env = (false, eval e env) :: starEach es env := by
  cases e <;> first
    | rfl
    | cases h
def noStars : List Expr → Bool
  | [] => true
  | e :: es => notStar e && noStars es
theorem plain_of : ∀ {es : List Expr} (h : noStars es = true) (pos : Pos) (env : PySem.Env), (backTo pos (starEach es env)).any (·.1) = false
  | [], _, _, _ => rfl
  | e :: es, h, pos, env => by
    unfold noStars at h
    obtain ⟨h1, h2⟩ := Bool.and_eq_true_iff.mp h
    rw [star_of h1]
    have := plain_of h2 pos env
    unfold backTo at this ⊢
    rw [List.map_cons, List.any_cons, this]
    rfl
def plainT : Expr → Bool
  | .UnaryOp .Not _ _ => false
  | .BoolOp .. => false
  | .IfExp .. => false
  | .Compare .. => false
  | _ => true
theorem isTrue_of {e : Expr} (h : plainT e = true) (env : PySem.Env) (whole : Sem Value) : isTrue e env whole = (do let v ← whole; standAt e.pos; holding [v] (truthy v)) := by
  cases e with
  | UnaryOp op a p => cases op <;> first | rfl | cases h
  | BoolOp _ _ _ => cases h
  | IfExp _ _ _ _ => cases h
  | Compare _ _ _ _ => cases h
  | _ => rfl

section
variable {X : Cx} {N : List Str} {sc : Scope} {k : Nat} {E : Env} {m : Type → Type} [Mon m]

/-! ### truth -/
def vTru : Val → Res Bool
  | .non => .ok false
  | .bl b => .ok b
  | .int i => .ok (i != 0)
  | .str x => if x.length ≤ sizeLine then .ok ((x.length : Int) != 0) else .stuck
  | .tup xs => .ok (!xs.isEmpty)
  | .lst xs => .ok (!xs.isEmpty)
  | .dic xs => .ok (!xs.isEmpty)
  | _ => .stuck
theorem vTru_exn {x : Val} {c : Str} {fs : List (Str × Val)} : vTru x ≠ .exn c fs := fun h => by
  cases x with
  | str s =>
    have h : (if s.length ≤ sizeLine then Res.ok ((s.length : Int) != 0) else Res.stuck) = Res.exn c fs := h
    split at h <;> cases h
  | _ => cases h
theorem isEmpty_len {α β : Type} {xs : List α} {ys : List β} (h : xs.length = ys.length) : xs.isEmpty = ys.isEmpty := by
  cases xs <;> cases ys <;> simp_all
theorem RepD.length {K : PySem.W.Frag} {mg : Str → Option Value} {κ : List Addr} {G : Hp} : ∀ {xs : List (Key × Val)} {vs : List (Key × V)}, RepD K mg κ G xs vs → vs.length = xs.length
  | [], _, h => by unfold RepD at h; subst h; rfl
  | x :: xs, _, h => by
    unfold RepD at h
    obtain ⟨v, r, e, _, t⟩ := h
    subst e
    simp [RepD.length t]
def TruD (K : PySem.W.Frag) (v : V) (H : Hp) (b : Bool) : Prop := TruV K v H b ∨ ∃ a kvs, v = .ref a ∧ Rd H a (.dK kvs) ∧ b = !kvs.isEmpty
theorem tru_rep {K : PySem.W.Frag} {mg : Str → Option Value} {κ : List Addr} {G H : Hp} (l : Le G H) {x : Val} {v : V} (r : Rep K mg κ G x v) {b : Bool} (h : vTru x = .ok b) : TruD K v H b := by
  cases x with
  | non => unfold Rep at r; subst r; cases h; exact .inl rfl
  | bl c => unfold Rep at r; subst r; cases h; exact .inl rfl
  | int i => unfold Rep at r; subst r; cases h; exact .inl rfl
  | str s =>
    unfold Rep at r; subst r
    have h : (if s.length ≤ sizeLine then Res.ok ((s.length : Int) != 0) else Res.stuck) = Res.ok b := h
    split at h
    · cases h; exact .inl ⟨by assumption, rfl⟩
    · cases h
  | tup xs =>
    unfold Rep at r
    obtain ⟨a, vs, e, q, t⟩ := r
    subst e; cases h
    exact .inl (.inr (.inl ⟨vs, l.sqT q, by rw [isEmpty_len t.length]⟩))
  | lst xs =>
    unfold Rep at r
    obtain ⟨a, vs, e, q, t⟩ := r
    subst e; cases h
    exact .inl (.inl ⟨vs, .inl (.inl (l _ _ q)), by rw [isEmpty_len t.length]⟩)
  | dic xs =>
    unfold Rep at r
    obtain ⟨a, vs, e, q, t⟩ := r
    subst e; cases h
    exact .inr ⟨a, vs, rfl, l.rd q, by rw [isEmpty_len t.length]⟩
  | obj _ _ => cases h
  | cell _ => cases h
  | scr _ => cases h
theorem pt_truD {a : Expr} {ta : TE} (ha : PE X a ta) (he : ∀ whole, isTrue a X.env whole = (do let v ← whole; standAt a.pos; holding [v] (truthy v))) :
    PT X a (fun σ H Q => ta σ H fun x H' => ∃ k, TruD X.K x H' k ∧ Q k H') := by
  refine ⟨fun pins s σ H Q I h => ?_⟩
  refine PyProof.Rows.isTrue_plain (thn (ha.run pins s σ H _ I h) fun v s1 ⟨x, H1, I1, r1, k, hk, q1⟩ => ?_) (he _)
  rcases hk with hk | ⟨b, kvs, e, hr, e2⟩
  · exact tru_ok pins s1 σ H1 x v Q I1 r1 ⟨k, hk, q1⟩
  · subst e e2
    obtain rfl : v = Value.ref b := r1
    exact d_truth I1 hr fun s2 I2 => ⟨H1, I2, q1⟩
theorem et_val {e : Expr} {r : m Val} (h : Ev X E e r) (hp : plainT e = true := by rfl) : Et X E e (r >>= fun x => Mon.of (vTru x)) := by
  intro B0 S κ G σ H sat W tk Q q
  refine wt_of (pt_truD pe_self fun whole => isTrue_of hp _ _) ?_
  refine h B0 S κ G σ H sat W tk _ (bindW q fun x v κ1 G1 H1 S1 e1 r1 h1 => ?_)
  have h2 := h1.ofOk
  cases z : vTru x with
  | ok b =>
    rw [z] at h2
    exact ⟨b, tru_rep e1.e.w.le r1 z, h2 κ1 G1 H1 b (ExtB.refl e1.e.w) rfl⟩
  | exn c fs => exact absurd z vTru_exn
  | stuck => rw [z] at h2; exact h2.elim
/-- the value of a test is True or False -/
def vBl : Val → Res Bool
  | .bl b => .ok b
  | _ => .stuck
theorem et_cmp {op : CmpOp} {g : Val → Val → Res Val} {a b : Expr} {pos : Pos} {ra rb : m Val} (hg : Op2 X (compareOp op) g) (ha : Ev X E a ra) (hb : Ev X E b rb) (hm : behindInMarks op b = false := by rfl) :
    Et X E (.Compare a [op] [b] pos) (ra >>= fun x => rb >>= fun y => Mon.of (g x y >>= vBl)) := by
  intro B0 S κ G σ H sat W tk Q h
  refine wt_of (pt_cmpR op_self pe_self pe_self hm) ?_
  refine ha B0 S κ G σ H sat W tk _ (bindW h fun x v κ1 G1 H1 S1 e1 r1 h1 => ?_)
  refine hb B0 S1 κ1 G1 σ H1 (sat.ext e1.weak) W tk _ (bindW h1 fun y u κ2 G2 H2 S2 e2 r2 h2 => ?_)
  refine hg κ2 G2 H2 S2 x y v u _ _ e2.e.w (r1.mono e2.e.pre e2.e.le) r2 (bindW (m := Res) h2.ofOk fun z w κ3 G3 H3 S3 e3 r3 h3 => ?_)
  cases z with
  | bl c =>
    unfold Rep at r3; subst r3
    exact ⟨c, rfl, h3 κ3 G3 H3 c (ExtB.refl e3.e.w) rfl⟩
  | _ => exact h3.elim
theorem et_not {a : Expr} {pos : Pos} {r : m Bool} (h : Et X E a r) : Et X E (.UnaryOp .Not a pos) (r >>= fun b => Pure.pure (!b)) := by
  intro B0 S κ G σ H sat W tk Q q
  refine wt_of (pt_not pt_self) ?_
  refine h B0 S κ G σ H sat W tk _ (bindW q fun x v κ1 G1 H1 S1 e1 r1 h1 => ?_)
  subst r1
  exact h1.pure e1.e.w rfl
structure WW (X : Cx) (e : Expr) (σ : St) (H : Hp) (Q : Bool → Hp → Prop) : Prop where
  run : ∀ (whole : Sem Value) (pins : List (Addr × Obj)) (s : Shared), L2.Inv X pins σ H s → wpAny (model X.prog X.w) X.A (isTrue e X.env whole) (TP X pins σ Q) X.xe s
/-- a chain of and | or, whatever its whole is -/
def Ew (X : Cx) (E : Env) (e : Expr) (r : m Bool) : Prop :=
  ∀ B0 S κ G σ H, Sat X.K X.mg false B0 E S κ G σ H → ∀ W : WX, Takes X W → ∀ Q : Bool → Hp → Prop, Post X.K X.mg (Mon.pu m) RB κ G H S (Mon.run r S) Q (fun c d H' => W c d σ H') → WW X e σ H Q
theorem pw_self {e : Expr} : PW X e (WW X e) := ⟨fun whole pins s _ _ _ I h => h.run whole pins s I⟩
theorem et_bool {e : Expr} {r : m Bool} (h : Ew X E e r) : Et X E e r := by
  intro B0 S κ G σ H sat W tk Q q
  exact ⟨fun pins s I => (h B0 S κ G σ H sat W tk Q q).run _ pins s I⟩
theorem ew_and1 {a : Expr} {pos : Pos} {r : m Bool} (h : Et X E a r) : Ew X E (.BoolOp .And [a] pos) r := by
  intro B0 S κ G σ H sat W tk Q q
  refine ⟨fun whole pins s I => ?_⟩
  exact (pw_and1 pt_self).run whole pins s σ H Q I (h B0 S κ G σ H sat W tk Q q)
theorem ew_or1 {a : Expr} {pos : Pos} {r : m Bool} (h : Et X E a r) : Ew X E (.BoolOp .Or [a] pos) r := by
  intro B0 S κ G σ H sat W tk Q q
  refine ⟨fun whole pins s I => ?_⟩
  exact (pw_or1 pt_self).run whole pins s σ H Q I (h B0 S κ G σ H sat W tk Q q)
theorem ew_and {a b : Expr} {es : List Expr} {pos : Pos} {r r2 : m Bool} (h : Et X E a r) (h2 : Ew X E (.BoolOp .And (b :: es) pos) r2) : Ew X E (.BoolOp .And (a :: b :: es) pos) (r >>= fun c => if c = true then r2 else Pure.pure false) := by
  intro B0 S κ G σ H sat W tk Q q
  refine ⟨fun whole pins s I => ?_⟩
  refine (pw_and pt_self pw_self).run whole pins s σ H Q I ?_
  refine h B0 S κ G σ H sat W tk _ (bindW q fun x v κ1 G1 H1 S1 e1 r1 h1 => ?_)
  subst r1
  cases x with
  | true =>
    rw [if_pos rfl] at h1 ⊢
    exact h2 B0 S1 κ1 G1 σ H1 (sat.ext e1.weak) W tk Q h1
  | false =>
    rw [if_neg Bool.false_ne_true] at h1 ⊢
    exact h1.pure e1.e.w rfl
theorem ew_or {a b : Expr} {es : List Expr} {pos : Pos} {r r2 : m Bool} (h : Et X E a r) (h2 : Ew X E (.BoolOp .Or (b :: es) pos) r2) : Ew X E (.BoolOp .Or (a :: b :: es) pos) (r >>= fun c => if c = true then Pure.pure true else r2) := by
  intro B0 S κ G σ H sat W tk Q q
  refine ⟨fun whole pins s I => ?_⟩
  refine (pw_or pt_self pw_self).run whole pins s σ H Q I ?_
  refine h B0 S κ G σ H sat W tk _ (bindW q fun x v κ1 G1 H1 S1 e1 r1 h1 => ?_)
  subst r1
  cases x with
  | true =>
    rw [if_pos rfl] at h1 ⊢
    exact h1.pure e1.e.w rfl
  | false =>
    rw [if_neg Bool.false_ne_true] at h1 ⊢
    exact h2 B0 S1 κ1 G1 σ H1 (sat.ext e1.weak) W tk Q h1
theorem ev_ifExp {c a b : Expr} {pos : Pos} {rc : m Bool} {ra rb : m Val} (hc : Et X E c rc) (ha : Ev X E a ra) (hb : Ev X E b rb) : Ev X E (.IfExp c a b pos) (rc >>= fun t => if t = true then ra else rb) := by
  intro B0 S κ G σ H sat W tk Q q
  refine we_of (pe_ifExp pt_self pe_self pe_self) ?_
  refine hc B0 S κ G σ H sat W tk _ (bindW q fun x v κ1 G1 H1 S1 e1 r1 h1 => ?_)
  subst r1
  cases x with
  | true =>
    rw [if_pos rfl] at h1 ⊢
    exact ha B0 S1 κ1 G1 σ H1 (sat.ext e1.weak) W tk Q h1
  | false =>
    rw [if_neg Bool.false_ne_true] at h1 ⊢
    exact hb B0 S1 κ1 G1 σ H1 (sat.ext e1.weak) W tk Q h1
def vTruV : Val → Res Bool
  | .dic _ => .stuck
  | x => vTru x
theorem vTruV_exn {x : Val} {c : Str} {fs : List (Str × Val)} : vTruV x ≠ .exn c fs := fun h => by
  cases x with
  | dic _ => cases h
  | non => exact vTru_exn (x := .non) h
  | bl b => exact vTru_exn (x := .bl b) h
  | int i => exact vTru_exn (x := .int i) h
  | str z => exact vTru_exn (x := .str z) h
  | tup xs => exact vTru_exn (x := .tup xs) h
  | lst xs => exact vTru_exn (x := .lst xs) h
  | obj C fs => exact vTru_exn (x := .obj C fs) h
  | cell n => exact vTru_exn (x := .cell n) h
  | scr n => exact vTru_exn (x := .scr n) h
theorem tru_repV {K : PySem.W.Frag} {mg : Str → Option Value} {κ : List Addr} {G H : Hp} (l : Le G H) {x : Val} {v : V} (r : Rep K mg κ G x v) {b : Bool} (h : vTruV x = .ok b) : TruV K v H b := by
  cases x with
  | dic _ => cases h
  | non => unfold Rep at r; subst r; cases h; rfl
  | bl c => unfold Rep at r; subst r; cases h; rfl
  | int i => unfold Rep at r; subst r; cases h; rfl
  | str s =>
    unfold Rep at r; subst r
    have h : (if s.length ≤ sizeLine then Res.ok ((s.length : Int) != 0) else Res.stuck) = Res.ok b := h
    split at h
    · cases h; exact ⟨by assumption, rfl⟩
    · cases h
  | tup xs =>
    unfold Rep at r
    obtain ⟨a, vs, e, q, t⟩ := r
    subst e; cases h
    exact .inr (.inl ⟨vs, l.sqT q, by rw [isEmpty_len t.length]⟩)
  | lst xs =>
    unfold Rep at r
    obtain ⟨a, vs, e, q, t⟩ := r
    subst e; cases h
    exact .inl ⟨vs, .inl (.inl (l _ _ q)), by rw [isEmpty_len t.length]⟩
  | obj _ _ => cases h
  | cell _ => cases h
  | scr _ => cases h
/-- not e as a value -/
theorem ev_not {a : Expr} {pos : Pos} {r : m Val} (h : Ev X E a r) : Ev X E (.UnaryOp .Not a pos) (r >>= fun x => Mon.of (vTruV x) >>= fun b => Pure.pure (.bl (!b))) := by
  intro B0 S κ G σ H sat W tk Q q
  refine we_of (pe_notT pe_self) ?_
  refine h B0 S κ G σ H sat W tk _ (bindW q fun x v κ1 G1 H1 S1 e1 r1 h1 => ?_)
  have h2 := h1
  rw [Mon.run_bind, Mon.run_of] at h2
  cases z : vTruV x with
  | ok b =>
    rw [z] at h2
    exact ⟨b, tru_repV e1.e.w.le r1 z, Post.pure (m := m) (x := Val.bl (!b)) h2 e1.e.w (by unfold Rep; rfl)⟩
  | exn c fs => exact absurd z vTruV_exn
  | stuck => rw [z] at h2; exact h2.elim
theorem ev_one {op : PySem.BoolOp} {a : Expr} {pos : Pos} {r : m Val} (h : Ev X E a r) : Ev X E (.BoolOp op [a] pos) r := by
  intro B0 S κ G σ H sat W tk Q q
  exact we_of (pe_one pe_self) (h B0 S κ G σ H sat W tk Q q)
theorem ev_and {a b : Expr} {es : List Expr} {pos : Pos} {r r2 : m Val} (h : Ev X E a r) (h2 : Ev X E (.BoolOp .And (b :: es) pos) r2) :
    Ev X E (.BoolOp .And (a :: b :: es) pos) (r >>= fun x => Mon.of (vTruV x) >>= fun c => if c = true then r2 else Pure.pure x) := by
  intro B0 S κ G σ H sat W tk Q q
  refine we_of (pe_andT pe_self pe_self) ?_
  refine h B0 S κ G σ H sat W tk _ (bindW q fun x v κ1 G1 H1 S1 e1 r1 h1 => ?_)
  rw [Mon.run_bind, Mon.run_of] at h1
  cases z : vTruV x with
  | ok b =>
    rw [z] at h1
    refine ⟨b, tru_repV e1.e.w.le r1 z, ?_⟩
    cases b with
    | true => exact h2 B0 S1 κ1 G1 σ H1 (sat.ext e1.weak) W tk Q h1
    | false => exact Post.pure (m := m) (x := x) h1 e1.e.w r1
  | exn c fs => exact absurd z vTruV_exn
  | stuck => rw [z] at h1; exact h1.elim
theorem ev_or {a b : Expr} {es : List Expr} {pos : Pos} {r r2 : m Val} (h : Ev X E a r) (h2 : Ev X E (.BoolOp .Or (b :: es) pos) r2) :
    Ev X E (.BoolOp .Or (a :: b :: es) pos) (r >>= fun x => Mon.of (vTruV x) >>= fun c => if c = true then Pure.pure x else r2) := by
  intro B0 S κ G σ H sat W tk Q q
  refine we_of (pe_orT pe_self pe_self) ?_
  refine h B0 S κ G σ H sat W tk _ (bindW q fun x v κ1 G1 H1 S1 e1 r1 h1 => ?_)
  rw [Mon.run_bind, Mon.run_of] at h1
  cases z : vTruV x with
  | ok b =>
    rw [z] at h1
    refine ⟨b, tru_repV e1.e.w.le r1 z, ?_⟩
    cases b with
    | true => exact Post.pure (m := m) (x := x) h1 e1.e.w r1
    | false => exact h2 B0 S1 κ1 G1 σ H1 (sat.ext e1.weak) W tk Q h1
  | exn c fs => exact absurd z vTruV_exn
  | stuck => rw [z] at h1; exact h1.elim

/-! ### lists of expressions, displays -/
theorem ea_nil : Ea X E [] (Pure.pure [] : m (List Val)) := by
  intro B0 S κ G σ H sat W tk Q q
  exact wa_of pa_nil (q.pure sat.w .nil)
theorem ea_cons {e : Expr} {es : List Expr} {r : m Val} {rs : m (List Val)} (h : Ev X E e r) (h2 : Ea X E es rs) (hs : notStar e = true := by rfl) : Ea X E (e :: es) (r >>= fun x => rs >>= fun xs => Pure.pure (x :: xs)) := by
  intro B0 S κ G σ H sat W tk Q q
  refine wa_of (pa_cons pe_self pa_self (star_of hs es X.env)) ?_
  refine h B0 S κ G σ H sat W tk _ (bindW q fun x v κ1 G1 H1 S1 e1 r1 h1 => ?_)
  refine h2 B0 S1 κ1 G1 σ H1 (sat.ext e1.weak) W tk _ (bindW h1 fun y u κ2 G2 H2 S2 e2 r2 h3 => ?_)
  exact h3.pure e2.e.w (.cons (r1.mono e2.e.pre e2.e.le) r2)
theorem Wd.upd {K : PySem.W.Frag} {mg : Str → Option Value} {κ : List Addr} {G H : Hp} {S : Cells} {p : Addr} {o : HO} (w : Wd K mg κ G H S) (hp : H p = none) : ExtB K mg true κ G H S κ (L2.upd G p o) (L2.upd H p o) S := by
  have gp : G p = none := by
    cases e : G p with
    | none => rfl
    | some u => rw [w.le p u e] at hp; cases hp
  have np : ∀ a ∈ κ, a ≠ p := fun a h e => w.there h (by rw [e]; exact hp)
  have lg : Le G (L2.upd G p o) := fun a u h => by
    rw [upd_ne (fun e => by rw [e, gp] at h; cases h)]; exact h
  have lh : Le H (L2.upd H p o) := fun a u h => by
    rw [upd_ne (fun e => by rw [e, hp] at h; cases h)]; exact h
  refine ⟨⟨Pre.refl _, lg, fun a u h _ => lh a u h, fun a h g => ?_, fun a h n => absurd h n, ⟨fun a u h => ?_, w.nd, fun a h => ?_, w.len, fun n a c h1 h2 => ?_⟩⟩, fun _ => ⟨rfl, rfl, lh⟩⟩
  · rw [upd_ne (fun e => h (by rw [e]; exact hp))]; exact g
  · by_cases e : a = p
    · subst e; rw [upd_same] at h ⊢; exact h
    · rw [upd_ne e] at h ⊢; exact w.le a u h
  · rw [upd_ne (np a h)]; exact w.ap a h
  · have ha := np a (List.mem_of_getElem? h1)
    have q := w.cel n a c h1 h2
    cases c with
    | lst xs => obtain ⟨vs, e, r⟩ := q; exact ⟨vs, by rw [upd_ne ha]; exact e, r.mono (Pre.refl _) lg⟩
    | obj C fs => obtain ⟨Ca, dx, vs, e0, e, r⟩ := q; exact ⟨Ca, dx, vs, e0, by rw [upd_ne ha]; exact e, r.mono (Pre.refl _) lg⟩
    | dic xs => obtain ⟨vs, e, r⟩ := q; exact ⟨vs, by rw [upd_ne ha]; exact e, r.mono (Pre.refl _) lg⟩
    | _ => exact q.elim
/-- a new tuple | list, frozen -/
theorem new_tup {K : PySem.W.Frag} {mg : Str → Option Value} {κ : List Addr} {G H : Hp} {S : Cells} {p : Addr} {xs : List Val} {vs : List V} {Q : VK} {W : Value → Option Addr → Hp → Prop} (w : Wd K mg κ G H S) (hp : H p = none) (r : RepL K mg κ G xs vs)
    (h : Post K mg true (Rep K mg) κ G H S (.ok (.tup xs), S) Q W) : Q (.ref p) (L2.upd H p (.tup vs)) := by
  have x := w.upd (o := .tup vs) hp
  refine h κ _ _ _ x ?_
  unfold Rep
  exact ⟨p, vs, rfl, .inl (.inl upd_same), r.mono (Pre.refl _) x.e.le⟩
theorem new_lst {K : PySem.W.Frag} {mg : Str → Option Value} {κ : List Addr} {G H : Hp} {S : Cells} {p : Addr} {xs : List Val} {vs : List V} {Q : VK} {W : Value → Option Addr → Hp → Prop} (w : Wd K mg κ G H S) (hp : H p = none) (r : RepL K mg κ G xs vs)
    (h : Post K mg true (Rep K mg) κ G H S (.ok (.lst xs), S) Q W) : Q (.ref p) (L2.upd H p (.lst vs)) := by
  have x := w.upd (o := .lst vs) hp
  refine h κ _ _ _ x ?_
  unfold Rep
  exact ⟨p, vs, rfl, upd_same, r.mono (Pre.refl _) x.e.le⟩
def vTup (xs : List Val) : Res Val := if xs.length ≤ sizeLine then .ok (.tup xs) else .stuck
def vLst (xs : List Val) : Res Val := if xs.length ≤ sizeLine then .ok (.lst xs) else .stuck
theorem ev_tup {es : List Expr} {x1} {pos : Pos} {rs : m (List Val)} (h : Ea X E es rs) : Ev X E (.Tuple es x1 pos) (rs >>= fun xs => Mon.of (vTup xs)) := by
  intro B0 S κ G σ H sat W tk Q q
  refine we_of (pe_tup pa_self) ?_
  refine h B0 S κ G σ H sat W tk _ (bindW q fun x v κ1 G1 H1 S1 e1 r1 h1 => ?_)
  have h2 := h1.ofOk
  unfold vTup at h2
  split at h2
  · exact ⟨by rw [r1.length]; assumption, fun p hp => new_tup e1.e.w hp r1 h2⟩
  · exact h2.elim
theorem ev_lst {es : List Expr} {pos : Pos} {rs : m (List Val)} (h : Ea X E es rs) : Ev X E (.List es pos) (rs >>= fun xs => Mon.of (vLst xs)) := by
  intro B0 S κ G σ H sat W tk Q q
  refine we_of (pe_lst pa_self) ?_
  refine h B0 S κ G σ H sat W tk _ (bindW q fun x v κ1 G1 H1 S1 e1 r1 h1 => ?_)
  have h2 := h1.ofOk
  unfold vLst at h2
  split at h2
  · exact ⟨by rw [r1.length]; assumption, fun p hp => new_lst e1.e.w hp r1 h2⟩
  · exact h2.elim

/-! ### built-ins by name -/
def OpN (X : Cx) (f : Value) (g : List Val → Res Val) : Prop := ∀ κ G H S xs vs Q W, Wd X.K X.mg κ G H S → RepL X.K X.mg κ G xs vs →
  Post X.K X.mg true (Rep X.K X.mg) κ G H S (lift (g xs) S) Q W → WC X f vs H Q
theorem ev_blt (c : Ctx X N sc k) {x : Str} {id : String} {p pos : Pos} {e : Expr} {es : List Expr} {rs : m (List Val)} {g : List Val → Res Val} (ho : OpN X (.builtin id) g) (hg : glB sc x = true) (hm : X.mg x = none) (hv : bootBuiltins x = some (.builtin id))
    (ha : Ea X E (e :: es) rs) (hs : noStars (e :: es) = true := by rfl) : Ev X E (.Call (.Name x p) (e :: es) [] pos) (rs >>= fun xs => Mon.of (g xs)) := by
  intro B0 S κ G σ H sat W tk Q q
  obtain ⟨g1, g2, g3⟩ := c.gl hg
  obtain ⟨s1, s2⟩ := Bool.and_eq_true_iff.mp hs
  refine we_of (pe_callB call_self g1 hm hv pa_self (hn := g3) (hdb := g2) (he := star_of s1 es X.env) (hpl := plain_of s2 pos X.env)) ?_
  refine ha B0 S κ G σ H sat W tk _ (bindW q fun x v κ1 G1 H1 S1 e1 r1 h1 => ?_)
  exact ho κ1 G1 H1 S1 x v Q _ e1.e.w r1 h1.ofOk
theorem ev_bty (c : Ctx X N sc k) {x : Str} {T : String} {p pos : Pos} {e : Expr} {es : List Expr} {rs : m (List Val)} {g : List Val → Res Val} (ho : OpN X (.type T) g) (hg : glB sc x = true) (hm : X.mg x = none) (hv : bootBuiltins x = some (.type T))
    (ha : Ea X E (e :: es) rs) (hs : noStars (e :: es) = true := by rfl) : Ev X E (.Call (.Name x p) (e :: es) [] pos) (rs >>= fun xs => Mon.of (g xs)) := by
  intro B0 S κ G σ H sat W tk Q q
  obtain ⟨g1, g2, g3⟩ := c.gl hg
  obtain ⟨s1, s2⟩ := Bool.and_eq_true_iff.mp hs
  refine we_of (pe_callTy call_self g1 hm hv pa_self (hn := g3) (hdb := g2) (he := star_of s1 es X.env) (hpl := plain_of s2 pos X.env)) ?_
  refine ha B0 S κ G σ H sat W tk _ (bindW q fun x v κ1 G1 H1 S1 e1 r1 h1 => ?_)
  exact ho κ1 G1 H1 S1 x v Q _ e1.e.w r1 h1.ofOk
/-! ### subscripts -/
theorem ev_sub {g : Val → Val → Res Val} {a b : Expr} {pos : Pos} {ra rb : m Val} {r : R2} (hr : IxR X r) (hg : ∀ κ G H S x y v u Q W, Wd X.K X.mg κ G H S → Rep X.K X.mg κ G x v → Rep X.K X.mg κ G y u →
    Post X.K X.mg true (Rep X.K X.mg) κ G H S (lift (g x y) S) Q W → r v u H Q) (hs : PlainIx b) (ha : Ev X E a ra) (hb : Ev X E b rb) :
    Ev X E (.Subscript a b pos) (ra >>= fun x => rb >>= fun y => Mon.of (g x y)) := by
  intro B0 S κ G σ H sat W tk Q h
  refine we_of (pe_ix hr pe_self pe_self hs) ?_
  refine ha B0 S κ G σ H sat W tk _ (bindW h fun x v κ1 G1 H1 S1 e1 r1 h1 => ?_)
  refine hb B0 S1 κ1 G1 σ H1 (sat.ext e1.weak) W tk _ (bindW h1 fun y u κ2 G2 H2 S2 e2 r2 h2 => ?_)
  exact hg κ2 G2 H2 S2 x y v u Q _ e2.e.w (r1.mono e2.e.pre e2.e.le) r2 h2.ofOk
end
end Tv

namespace Tv
open PySem L2

/-! ### what a def is worth -/
section
variable {m : Type → Type} [Mon m]
structure FnG (P : Program) (w : World) (K : PySem.W.Frag) (mg : Str → Option Value) (base : Heap) (k : Nat) (f : Addr) (fd : FuncData) (ps : List Str) (g : List Val → m Val) : Prop where
  len : ∀ xs, xs.length ≠ ps.length → g xs = Mon.of .stuck
  run : ∀ (A : Around) (outer : List PySem.Env) (s : Shared) (H : Hp) (args : Args) (us : List Value) (vs : List V) (Q : VK) (E : XK) (κ : List Addr) (G : Hp) (S : Cells) (xs : List Val), Room k A → A.guards = some [] →
    Env0 P w K mg base A outer s H → BindsTo s fd args (ps.zip us) → Vals vs us → vs.length = ps.length → Wd K mg κ G H S → RepL K mg κ G xs vs →
    Post K mg (Mon.pu m) (Rep K mg) κ G H S (Mon.run (g xs) S) Q (fun c d H' => E c d H') → codeAny (model P w) A (.call (.ref f) args) (CR (L2.CX P w) outer P w H s Q E) s
theorem FnG.mono {P : Program} {w : World} {K : PySem.W.Frag} {mg : Str → Option Value} {base : Heap} {j k : Nat} {f : Addr} {fd : FuncData} {ps : List Str} {g : List Val → m Val} (F : FnG P w K mg base j f fd ps g) (h : j ≤ k) : FnG P w K mg base k f fd ps g :=
  ⟨F.len, fun A outer s H args us vs Q E κ G S xs hr => F.run A outer s H args us vs Q E κ G S xs (hr.mono h)⟩
def startE (N : List Str) (xs : List Val) : Env := xs.map .fz ++ List.replicate (N.length - xs.length) .un
theorem slots_start {K : PySem.W.Frag} {mg : Str → Option Value} {κ : List Addr} {G H : Hp} : ∀ {xs : List Val} {vs : List V} (n : Nat), RepL K mg κ G xs vs → SlotsOk K mg κ G H (xs.map .fz ++ List.replicate n .un) (vs.map some ++ List.replicate n none) []
  | [], vs, n, h => by
    unfold RepL at h; subst h
    show SlotsOk K mg κ G H (List.replicate n .un) (List.replicate n none) []
    induction n with
    | zero => exact ⟨rfl, rfl⟩
    | succ n ih => exact ⟨none, List.replicate n none, [], [], rfl, rfl, rfl, ih⟩
  | x :: xs, vs, n, h => by
    unfold RepL at h
    obtain ⟨v, r, e, h1, h2⟩ := h
    subst e
    exact ⟨some v, _, [], [], rfl, rfl, ⟨rfl, v, rfl, h1⟩, slots_start n h2⟩
theorem sat_start {K : PySem.W.Frag} {mg : Str → Option Value} {b : Bool} {κ : List Addr} {G H : Hp} {S : Cells} {N : List Str} {xs : List Val} {vs : List V} (w : Wd K mg κ G H S) (h : RepL K mg κ G xs vs) :
    Sat K mg b ⟨κ, G, H, S, κ, G⟩ (startE N xs) S κ G (L2.start N vs) H := by
  refine ⟨⟨ExtB.refl w, Pre.refl _, Le.refl _⟩, [], ?_, List.nodup_nil, fun a z => nomatch z⟩
  unfold startE L2.start
  rw [h.length]
  exact slots_start _ h
/-- A DEF BY ITS BODY -/
theorem fnG_of {P : Program} {w : World} {K : PySem.W.Frag} {mg : Str → Option Value} {base : Heap} {k : Nat} {f : Addr} {name qual : Str} {params : Arguments} {body : List Stmt} {scope : Scope} {dV kV doc pm cdv ct oc : Value} {an od : Option Addr}
    {osl : Array (Option Value)} {N ps : List Str} {g : List Val → m Val} (lk : K.lookup f = some ⟨oc, od, .func (PySem.W.fnOf name qual params body scope dV kV doc pm an cdv ct), osl⟩) (hcd : PySem.W.codeIn K cdv qual = true) (Sc : FnScope N ps scope) (hlen : ∀ xs, xs.length ≠ ps.length → g xs = Mon.of .stuck)
    (hb : ∀ (A : Around) (outer : List PySem.Env) (s : Shared) (H : Hp) (E : XK) (xs : List Val), CtxF (cxOf (L2.CX P w) P w K mg base N qual scope f cdv A outer s H E) N scope k → xs.length = ps.length →
      Sx (cxOf (L2.CX P w) P w K mg base N qual scope f cdv A outer s H E) (startE N xs) body [] (g xs) .rr) :
    FnG P w K mg base (k + 1) f (PySem.W.fnOf name qual params body scope dV kV doc pm an cdv ct) ps g := by
  refine ⟨hlen, fun A outer s H args us vs Q E κ G S xs hr hgd e0 hbi r hl wd rl hp => ?_⟩
  have kx : K.In s.heap := e0.mod.kin.keeps fun b o e => (e0.bs b o e).1
  have nl : s.heap.NoLimit := e0.mod.nolimit.keeps fun b o e => (e0.bs b o e).1
  have nm : ∀ y ∈ ps.zip us, scope.names.lookup y.1 = some .local ∨ (scope.names.lookup y.1 = some .cell ∧ ((cellsFrom (s.heap.objs.size + 1) scope.names []).lookup y.1).isSome = true) := by
    rintro ⟨n, v⟩ hy
    have hm := (List.of_mem_zip hy).1
    cases Sc.par n hm with
    | inl q => exact .inl q
    | inr q => exact .inr ⟨q, PySem.W.cellsFrom_some _ _ _ (.inl q)⟩
  apply codeAny_call_function hr.depth (kx _ _ lk) rfl Sc.co Sc.gen rfl (PySem.W.codeRec_of kx hcd)
  apply hbi
  apply wpAny_newFunctionEnv_cells Sc.kind nm
  intro env he s1 x
  subst he
  refine ⟨nl.keeps x.toInCall.keep, codeAny_func ?_⟩
  have I := inv_start (CX := L2.CX P w) (qual := qual) (f := f) (cd := cdv) (E := E) Sc hr.hd e0 hl r x
  have cx : CtxF (cxOf (L2.CX P w) P w K mg base N qual scope f cdv A outer s H E) N scope k := ⟨⟨rfl, rfl, rfl, Sc.nd, hgd, hr.deeper _, passes_of rfl⟩, fun _ => rfl⟩
  have hx := hb A outer s H E xs cx (by rw [← rl.length]; exact hl)
  have wp := hx ⟨κ, G, H, S, κ, G⟩ S κ G (L2.start N vs) H (sat_start wd rl) (fun cls d _ H => E cls d H) (takes_of (E := E) rfl rfl rfl rfl) { nx := fun _ H' => Q .non H', rt := Q } (by
    revert hp
    cases Mon.run (g xs) S with
    | mk q S' =>
      cases q with
      | ok z => exact fun hp => ⟨fun κ' G' H' v e r => hp κ' G' H' v e.x r, fun e κ' G' σ' H' x => hp κ' G' H' .non x.x (by subst e; unfold Rep; rfl)⟩
      | exn c fs => exact fun hp κ' G' σ' H' cls d e r => hp κ' G' H' cls d e.x r
      | stuck => exact fun z => z)
  refine wpAny_mono (wp.run [] s1 I) (fun fl s' hs => ?_) fun e s' hs => hs
  cases fl with
  | ret u => obtain ⟨v, σ', H', J, rv, q⟩ := hs; exact ⟨v, H', J.os, J.bare, J.base, J.hok, rv, q⟩
  | next => obtain ⟨σ', H', J, q⟩ := hs; exact ⟨.non, H', J.os, J.bare, J.base, J.hok, rfl, q⟩
  | brk => obtain ⟨_, _, _, q⟩ := hs; exact q.elim
  | cont => obtain ⟨_, _, _, q⟩ := hs; exact q.elim
end
/-! ### a call -/
section
variable {X : Cx} {N : List Str} {sc : Scope} {k j : Nat} {E : Env} {m : Type → Type} [Mon m] {f : Addr} {fd : FuncData} {ps : List Str} {g : List Val → m Val}
theorem runG {pins : List (Addr × Obj)} {σ : St} {H : Hp} {s : Shared} {Q : VK} {us : List Value} {vs : List V} {κ : List Addr} {G : Hp} {S : Cells} {xs : List Val} {W : WX} (c : Ctx X N sc k) (F : FnG X.prog X.w X.K X.mg X.base j f fd ps g) (hj : j ≤ k) (hb : Binds X.K fd ps []) (tk : Takes X W)
    (I : L2.Inv X pins σ H s) (r : Vals vs us) (wd : Wd X.K X.mg κ G H S) (rl : RepL X.K X.mg κ G xs vs) (h : Post X.K X.mg (Mon.pu m) (Rep X.K X.mg) κ G H S (Mon.run (g xs) S) Q (fun c d H' => W c d σ H')) :
    wpAny (model X.prog X.w) X.A (call (.ref f) us) (EP X pins σ Q) X.xe s := by
  have hl : vs.length = ps.length := by
    rw [rl.length]
    by_cases e : xs.length = ps.length
    · exact e
    · rw [F.len xs e, Mon.run_of] at h
      exact h.elim
  have lu : (us ++ []).length = ps.length := by rw [List.append_nil, ← r.length]; exact hl
  have bt := hb s us I.kIn lu
  rw [List.append_nil] at bt
  refine wpAny_call (codeAny_mono (F.run X.A X.stack s H ⟨us, []⟩ us vs Q (fun c d H' => W c d σ H') κ G S xs (c.room.mono hj) c.gd I.env0 bt r hl wd rl h) fun fl s' q => ?_)
  cases fl with
  | error e => exact tk e s' (XE.of_call I (fun _ _ _ z => z) q)
  | ok z =>
    cases z with
    | ret u => exact I.after q
    | next => exact q.elim
    | brk => exact q.elim
    | cont => exact q.elim
/-- f(e, ..) -/
theorem ev_call (c : Ctx X N sc k) {x : Str} {p pos : Pos} {e : Expr} {es : List Expr} {rs : m (List Val)} (F : FnG X.prog X.w X.K X.mg X.base j f fd ps g) (hj : j ≤ k) (hb : Binds X.K fd ps []) (hg : glB sc x = true) (hm : X.mg x = some (.ref f)) (hk : PySem.W.keepIn X.K (.ref f) = true)
    (ha : Ea X E (e :: es) rs) (hs : noStars (e :: es) = true := by rfl) : Ev X E (.Call (.Name x p) (e :: es) [] pos) (rs >>= fun xs => g xs) := by
  intro B0 S κ G σ H sat W tk Q q
  obtain ⟨g1, g2, _⟩ := c.gl hg
  obtain ⟨s1, s2⟩ := Bool.and_eq_true_iff.mp hs
  refine ⟨fun pins s I => ?_⟩
  refine wpAny_Call_Name_kw (ld_glob I g1 hm ?_ g2)
  refine PySem.W.callWith_K (h₀ := X.base) I.ok.mod.kin hk (thn ((ha B0 S κ G σ H sat W tk _ (bindP q)).run pos pins s I) fun us s1 ⟨vs, H1, I1, r, a, κ1, G1, S1, w1, r1, h1⟩ => ⟨I1.kIn, ?_⟩) (star_of s1 es X.env) (plain_of s2 pos X.env)
  exact runG c F hj hb tk I1 r w1.e.w r1 h1
theorem ev_call0 (c : Ctx X N sc k) {x : Str} {p pos : Pos} (F : FnG X.prog X.w X.K X.mg X.base j f fd [] g) (hj : j ≤ k) (hb : Binds X.K fd [] []) (hg : glB sc x = true) (hm : X.mg x = some (.ref f)) (hk : PySem.W.keepIn X.K (.ref f) = true) :
    Ev X E (.Call (.Name x p) [] [] pos) (g []) := by
  intro B0 S κ G σ H sat W tk Q q
  obtain ⟨g1, g2, _⟩ := c.gl hg
  refine ⟨fun pins s I => ?_⟩
  refine wpAny_Call_Name_kw (ld_glob I g1 hm ?_ g2)
  exact PySem.W.callWith_K0 I.kIn hk (runG (us := []) (vs := []) (xs := []) c F hj hb tk I .nil sat.w .nil q)
end
end Tv

namespace Tv
open PySem L2

section
variable {K : PySem.W.Frag} {mg : Str → Option Value} {b : Bool} {B0 : Bs} {κ : List Addr} {G H : Hp} {S : Cells} {E : Env} {σ : St}
/-- the slots of some places forgotten -/
def unset (E : Env) : List Nat → Env
  | [] => E
  | i :: is => (unset E is).set i .un
theorem Sat.unset (h : Sat K mg b B0 E S κ G σ H) : ∀ is, Sat K mg b B0 (unset E is) S κ G σ H
  | [] => h
  | i :: is => (Sat.unset h is).forget
theorem SlotsOk.wipe : ∀ {E : Env} {σ : St} {L : List Addr}, SlotsOk K mg κ G H E σ L → ∀ {i : Nat}, E[i]? = some .un → SlotsOk K mg κ G H E (σ.set i none) L
  | [], _, _, h, i, e => by simp at e
  | s :: E, _, _, h, 0, e => by
    obtain ⟨ov, r, L1, L2, e1, e2, h1, h2⟩ := h
    subst e1 e2
    simp at e; subst e
    exact ⟨none, r, L1, L2, rfl, rfl, h1, h2⟩
  | s :: E, _, _, h, i + 1, e => by
    obtain ⟨ov, r, L1, L2, e1, e2, h1, h2⟩ := h
    subst e1 e2
    exact ⟨ov, r.set i none, L1, L2, rfl, rfl, h1, SlotsOk.wipe h2 (i := i) (by simpa using e)⟩
theorem Sat.wipe1 (h : Sat K mg b B0 E S κ G σ H) {i : Nat} : Sat K mg b B0 (E.set i .un) S κ G (σ.set i none) H := by
  obtain ⟨x, L, so, nd, q⟩ := h.forget (i := i)
  by_cases hi : i < E.length
  · exact ⟨x, L, so.wipe (by rw [List.getElem?_set_self (by simpa using hi)]), nd, q⟩
  · obtain ⟨x, L, so, nd, q⟩ := h
    have hs : σ.length = E.length := so.length
    rw [List.set_eq_of_length_le (by omega), List.set_eq_of_length_le (by omega)]
    exact ⟨x, L, so, nd, q⟩
/-- a block's own names, wiped -/
theorem Sat.wipe (h : Sat K mg b B0 E S κ G σ H) : ∀ is, Sat K mg b B0 (Tv.unset E is) S κ G (L2.wipe σ is) H
  | [] => h
  | i :: is => (Sat.wipe h is).wipe1
/-- an owned list | dict | instance at a slot is changed -/
theorem SlotsOk.own : ∀ {E : Env} {σ : St} {L : List Addr}, SlotsOk K mg κ G H E σ L → L.Nodup → ∀ {i : Nat} {s s' : Slot} {ov : Option V} {L1 : List Addr} {H' : Hp}, E[i]? = some s → σ[i]? = some ov → SlotOk K mg κ G H s ov L1 → SlotOk K mg κ G H' s' ov L1 →
    (∀ a, a ∉ L1 → H' a = H a) → (∀ L1', SlotOk K mg κ G H s ov L1' → L1' = L1) → SlotsOk K mg κ G H' (E.set i s') σ L ∧ (∀ a ∈ L1, a ∈ L)
  | [], _, _, h, _, i, _, _, _, _, _, e, _, _, _, _, _ => by simp at e
  | t :: E, _, _, h, nd, 0, s, s', ov, L1, H', e, eo, h1, h2, hk, hu => by
    obtain ⟨ov', r, L1', L2, e1, e2, h3, h4⟩ := h
    subst e1 e2
    simp at e eo; subst e eo
    have := hu L1' h3
    subst this
    obtain ⟨n1, n2, n3⟩ := List.nodup_append.mp nd
    exact ⟨⟨ov', r, L1', L2, rfl, rfl, h2, h4.mono (Pre.refl _) (Le.refl _) fun a m => hk a fun z => n3 a z a m rfl⟩, fun a m => by simp [m]⟩
  | t :: E, _, _, h, nd, i + 1, s, s', ov, L1, H', e, eo, h1, h2, hk, hu => by
    obtain ⟨ov', r, L1', L2, e1, e2, h3, h4⟩ := h
    subst e1 e2
    obtain ⟨n1, n2, n3⟩ := List.nodup_append.mp nd
    obtain ⟨q1, q2⟩ := SlotsOk.own h4 n2 (i := i) (by simpa using e) (by simpa using eo) h1 h2 hk hu
    exact ⟨⟨ov', r, L1', L2, rfl, rfl, h3.mono (Pre.refl _) (Le.refl _) fun a m => hk a fun z => n3 a m a (q2 a z) rfl, q1⟩, fun a m => by simp [q2 a m]⟩
theorem o1_uniq {xs : List Val} {ov : Option V} {L L' : List Addr} (h : SlotOk K mg κ G H (.o1 xs) ov L) (h' : SlotOk K mg κ G H (.o1 xs) ov L') : L' = L := by
  obtain ⟨a, vs, e, e1, _⟩ := h
  obtain ⟨a', vs', e', e1', _⟩ := h'
  subst e e' e1
  cases e1'
  rfl
/-- the heap changes at an owned address -/
theorem Wd.own (w : Wd K mg κ G H S) {a : Addr} {o : HO} (hg : G a = none) (hk : a ∉ κ) : Wd K mg κ G (L2.upd H a o) S := by
  refine ⟨fun x u h => ?_, w.nd, w.ap, w.len, fun n x c h1 h2 => ?_⟩
  · rw [upd_ne (fun e => by rw [e, hg] at h; cases h)]; exact w.le x u h
  · have ha : x ≠ a := fun e => hk (e ▸ List.mem_of_getElem? h1)
    have q := w.cel n x c h1 h2
    cases c with
    | lst xs => obtain ⟨vs, e, r⟩ := q; exact ⟨vs, by rw [upd_ne ha]; exact e, r⟩
    | obj C fs => obtain ⟨Ca, dx, vs, e0, e, r⟩ := q; exact ⟨Ca, dx, vs, e0, by rw [upd_ne ha]; exact e, r⟩
    | dic xs => obtain ⟨vs, e, r⟩ := q; exact ⟨vs, by rw [upd_ne ha]; exact e, r⟩
    | _ => exact q.elim
theorem ExtS.own (x : ExtS K mg b B0 κ G H S) {a : Addr} {o : HO} (h0 : B0.H a = none) (hg : G a = none) (hk : a ∉ κ) : ExtS K mg b B0 κ G (L2.upd H a o) S := by
  obtain ⟨x, pf, lf⟩ := x
  refine ⟨⟨⟨x.e.pre, x.e.le, fun c u h n => ?_, x.e.newG, x.e.newC, x.e.w.own hg hk⟩, fun p => ?_⟩, pf, lf⟩
  · rw [upd_ne (fun e => by rw [e, h0] at h; cases h)]; exact x.e.keep c u h n
  · obtain ⟨p1, p2, p3⟩ := x.p p
    exact ⟨p1, p2, fun c u h => by rw [upd_ne (fun e => by rw [e, h0] at h; cases h)]; exact p3 c u h⟩
theorem Sat.setO1 (h : Sat K mg b B0 E S κ G σ H) {i : Nat} {xs ys : List Val} (he : E[i]? = some (.o1 xs)) :
    ∃ a vs, σ[i]? = some (some (.ref a)) ∧ H a = some (.lst vs) ∧ RepL K mg κ G xs vs ∧ (∀ ws, RepL K mg κ G ys ws → Sat K mg b B0 (E.set i (.o1 ys)) S κ G σ (L2.upd H a (.lst ws))) := by
  obtain ⟨x, L, so, nd, q⟩ := h
  obtain ⟨ov, L1, h1, h2, h3⟩ := so.get he
  obtain ⟨a, vs, e1, e2, e3, e4⟩ := id h2
  subst e1 e2
  have ha := q a (h3 a (by simp))
  refine ⟨a, vs, h1, e3, e4, fun ws rw_ => ?_⟩
  obtain ⟨so2, _⟩ := so.own nd he h1 h2 (s' := .o1 ys) (H' := L2.upd H a (.lst ws)) ⟨a, ws, rfl, rfl, upd_same, rw_⟩ (fun c hc => upd_ne (fun e => hc (by simp [e]))) (fun L' h' => o1_uniq h2 h')
  refine ⟨x.own ha.1 ha.2.1 ha.2.2.1, L, so2, nd, fun c hc => ?_⟩
  obtain ⟨q1, q2, q3, q4⟩ := q c hc
  refine ⟨q1, q2, q3, ?_⟩
  by_cases e : c = a
  · subst e; rw [upd_same]; exact fun z => nomatch z
  · rw [upd_ne e]; exact q4
/-- a fresh list comes ahead of the slots -/
theorem Sat.push (h : Sat K mg b B0 E S κ G σ H) {p : Addr} (hp : H p = none) : Sat K mg b B0 (.o1 [] :: E) S κ G (some (.ref p) :: σ) (L2.upd H p (.lst [])) := by
  obtain ⟨x, L, so, nd, q⟩ := h
  have gp : G p = none := by
    cases e : G p with
    | none => rfl
    | some u => rw [x.x.e.w.le p u e] at hp; cases hp
  have kp : p ∉ κ := fun m => x.x.e.w.there m hp
  have h0 : B0.H p = none := by
    cases e : B0.H p with
    | none => rfl
    | some o =>
      by_cases m : p ∈ B0.κ
      · exact absurd (x.x.e.pre.mem m) kp
      · rw [x.x.e.keep p o e m] at hp; cases hp
  have pl : p ∉ L := fun m => (q p m).2.2.2 hp
  refine ⟨x.own h0 gp kp, p :: L, ⟨some (.ref p), σ, [p], L, rfl, rfl, ⟨p, [], rfl, rfl, upd_same, .nil⟩, so.mono (Pre.refl _) (Le.refl _) fun a m => upd_ne fun e => pl (e ▸ m)⟩, List.nodup_cons.mpr ⟨pl, nd⟩, fun a m => ?_⟩
  rcases List.mem_cons.mp m with m | m
  · subst m; exact ⟨h0, gp, kp, by rw [upd_same]; exact fun z => nomatch z⟩
  · obtain ⟨q1, q2, q3, q4⟩ := q a m
    exact ⟨q1, q2, q3, by rw [upd_ne (show a ≠ p from fun e => pl (e ▸ m))]; exact q4⟩
theorem Sat.tail {s : Slot} {ov : Option V} (h : Sat K mg b B0 (s :: E) S κ G (ov :: σ) H) : Sat K mg b B0 E S κ G σ H := by
  obtain ⟨x, L, ⟨ov', r, L1, Lr, e1, e2, h1, h2⟩, nd, q⟩ := h
  cases e1
  subst e2
  exact ⟨x, Lr, h2, (List.nodup_append.mp nd).2.1, fun a m => q a (by simp [m])⟩
/-- what is owned at a slot is frozen -/
theorem ExtS.freeze (x : ExtS K mg b B0 κ G H S) {a : Addr} {o : HO} (h0 : B0.H a = none) (hg : G a = none) (hk : a ∉ κ) (ha : H a = some o) : ExtS K mg b B0 κ (L2.upd G a o) H S ∧ Le G (L2.upd G a o) := by
  have lg : Le G (L2.upd G a o) := fun c u h => by rw [upd_ne (fun e => by rw [e, hg] at h; cases h)]; exact h
  obtain ⟨x, pf, lf⟩ := x
  refine ⟨⟨⟨⟨x.e.pre, x.e.le.trans lg, x.e.keep, fun c h g => ?_, x.e.newC, ⟨fun c u h => ?_, x.e.w.nd, fun c h => ?_, x.e.w.len, fun n c v h1 h2 => ?_⟩⟩, x.p⟩, pf, lf.trans lg⟩, lg⟩
  · rw [upd_ne (show c ≠ a from fun e => (by subst e; exact h h0))]; exact x.e.newG c h g
  · by_cases e : c = a
    · subst e; rw [upd_same] at h; cases h; exact ha
    · rw [upd_ne e] at h; exact x.e.w.le c u h
  · rw [upd_ne (show c ≠ a from fun e => hk (e ▸ h))]; exact x.e.w.ap c h
  · have q := x.e.w.cel n c v h1 h2
    cases v with
    | lst xs => obtain ⟨vs, e, r⟩ := q; exact ⟨vs, e, r.mono (Pre.refl _) lg⟩
    | obj C fs => obtain ⟨Ca, dx, vs, e0, e, r⟩ := q; exact ⟨Ca, dx, vs, e0, e, r.mono (Pre.refl _) lg⟩
    | dic xs => obtain ⟨vs, e, r⟩ := q; exact ⟨vs, e, r.mono (Pre.refl _) lg⟩
    | _ => exact q.elim
theorem Sat.freeze1 (h : Sat K mg b B0 E S κ G σ H) {i : Nat} {xs : List Val} (he : E[i]? = some (.o1 xs)) : ∃ G', Sat K mg b B0 (E.set i (.fz (.lst xs))) S κ G' σ H := by
  obtain ⟨x, L, so, nd, q⟩ := h
  obtain ⟨ov, L1, h1, h2, h3⟩ := so.get he
  obtain ⟨a, vs, e1, e2, e3, e4⟩ := id h2
  subst e1 e2
  obtain ⟨q1, q2, q3, q4⟩ := q a (h3 a (by simp))
  obtain ⟨x2, lg⟩ := x.freeze q1 q2 q3 e3
  refine ⟨L2.upd G a (.lst vs), ?_⟩
  have so2 := so.mono (H1 := H) (Pre.refl κ) lg fun _ _ => rfl
  have hi : i < E.length := (List.getElem?_eq_some_iff.mp he).1
  -- the owned part is let go
  have key : ∀ {E : Env} {σ : St} {L : List Addr} {i : Nat}, SlotsOk K mg κ (L2.upd G a (.lst vs)) H E σ L → L.Nodup → E[i]? = some (.o1 xs) → σ[i]? = some (some (.ref a)) →
      ∃ LL, SlotsOk K mg κ (L2.upd G a (.lst vs)) H (E.set i (.fz (.lst xs))) σ LL ∧ LL.Nodup ∧ (∀ c ∈ LL, c ∈ L) ∧ a ∉ LL := by
    intro E
    induction E with
    | nil => intro σ L i _ _ e; simp at e
    | cons s E ih =>
      intro σ L i so nd e eo
      obtain ⟨ov, r, L1, Lr, z1, z2, g1, g2⟩ := so
      subst z1 z2
      obtain ⟨n1, n2, n3⟩ := List.nodup_append.mp nd
      cases i with
      | zero =>
        simp at e eo; subst e eo
        obtain ⟨a', vs', y1, y2, y3, y4⟩ := g1
        cases y2
        subst y1
        refine ⟨Lr, ⟨some (.ref a), r, [], Lr, rfl, rfl, ⟨rfl, _, rfl, ?_⟩, g2⟩, n2, fun c m => by simp [m], fun m => n3 a (by simp) a m rfl⟩
        unfold Rep
        exact ⟨a, vs, rfl, upd_same, e4.mono (Pre.refl _) lg⟩
      | succ i =>
        obtain ⟨L3, w1, w2, w3, w4⟩ := ih g2 n2 (by simpa using e) (by simpa using eo)
        have am : a ∈ Lr := by
          obtain ⟨ov', L', p1, p2, p3⟩ := g2.get (i := i) (by simpa using e)
          obtain ⟨a', vs', y1, y2, _⟩ := p2
          have z : ov' = some (.ref a) := by
            have t : r[i]? = some (some (.ref a)) := by simpa using eo
            rw [p1] at t
            exact Option.some.inj t
          rw [z] at y2
          cases y2
          subst y1
          exact p3 a (by simp)
        refine ⟨L1 ++ L3, ⟨ov, r, L1, L3, rfl, rfl, g1, w1⟩, List.nodup_append.mpr ⟨n1, w2, fun c m d m' e' => n3 c m d (w3 d m') e'⟩, fun c m => ?_, fun m => ?_⟩
        · rcases List.mem_append.mp m with m | m
          · simp [m]
          · simp [w3 c m]
        · rcases List.mem_append.mp m with m | m
          · exact n3 a m a am rfl
          · exact w4 m
  obtain ⟨LL, s2, n2, m2, na⟩ := key so2 nd he h1
  refine ⟨x2, LL, s2, n2, fun c m => ?_⟩
  obtain ⟨p1, p2, p3, p4⟩ := q c (m2 c m)
  exact ⟨p1, by rw [upd_ne (show c ≠ a from fun e => na (e ▸ m))]; exact p2, p3, p4⟩
end
end Tv

namespace Tv
open PySem L2

def notComp : Expr → Bool
  | .ListComp .. => false
  | .SetComp .. => false
  | .DictComp .. => false
  | _ => true
theorem swaps_of {e : Expr} (h : notComp e = true) (t : Option Expr) (l : Nat) (env : PySem.Env) : swapsWith e t l env = pure false := by
  cases e <;> first
    | rfl
    | cases h
/-- a name of the body that is stored -/
def locB (N : List Str) (sc : Scope) (i : Nat) (x : Str) : Bool := decide (N[i]? = some x) && decide (sc.names.lookup x = some .local)
structure Lc (N : List Str) (sc : Scope) (i : Nat) (x : Str) : Prop where
  h : locB N sc i x = true
theorem Lc.n {N : List Str} {sc : Scope} {i : Nat} {x : Str} (m : Lc N sc i x) : N[i]? = some x ∧ sc.names.lookup x = some .local := by
  have h := m.h
  unfold locB at h
  simpa using h

/-- .. local or a cell of its own -/
def locK (N : List Str) (sc : Scope) (i : Nat) (x : Str) : Bool := decide (N[i]? = some x) && (decide (sc.names.lookup x = some .local) || decide (sc.names.lookup x = some .cell))
structure Lk (N : List Str) (sc : Scope) (i : Nat) (x : Str) : Prop where
  h : locK N sc i x = true
theorem Lk.n {N : List Str} {sc : Scope} {i : Nat} {x : Str} (m : Lk N sc i x) : N[i]? = some x ∧ L2.Loc sc x := by
  have h := m.h
  unfold locK at h
  simpa [L2.Loc] using h

section
variable {X : Cx} {N : List Str} {sc : Scope} {k : Nat} {E : Env} {m : Type → Type} [Mon m] {ρ : Type} {enc : ρ → Out} {rest : List Stmt} {Ks : List (List Stmt)}

/-! ### what follows -/
theorem PostS.step {K : PySem.W.Frag} {mg : Str → Option Value} {p : Bool} {B0 : Bs} {r : Res ρ × Cells} {D : Ends} {W : WX} (h : PostS K mg p B0 r enc D W) : PostS K mg p B0 r enc D W := h
/-- an expression ahead of a block: what is wanted of it -/
theorem bindS {α γ : Type} {K : PySem.W.Frag} {mg : Str → Option Value} {R : List Addr → Hp → α → γ → Prop} {B0 : Bs} {κ : List Addr} {G H : Hp} {S : Cells} {σ : St} {x : m α} {f : α → m ρ} {D : Ends} {W : WX} {Q : γ → Hp → Prop}
    (sat : Sat K mg (Mon.pu m) B0 E S κ G σ H) (h : PostS K mg (Mon.pu m) B0 (Mon.run (x >>= f) S) enc D W)
    (q : ∀ a v κ1 G1 H1 S1, Sat K mg (Mon.pu m) B0 E S1 κ1 G1 σ H1 → R κ1 G1 a v → PostS K mg (Mon.pu m) B0 (Mon.run (f a) S1) enc D W → ExtB K mg (Mon.pu m) κ G H S κ1 G1 H1 S1 → Q v H1) :
    Post K mg (Mon.pu m) R κ G H S (Mon.run x S) Q (fun c d H' => W c d σ H') := by
  rw [Mon.run_bind] at h
  have h : PostS K mg (Mon.pu m) B0 (M.bind (Mon.run x) (fun a => Mon.run (f a)) S) enc D W := h
  unfold M.bind at h
  cases e : Mon.run x S with
  | mk r S' =>
    rw [e] at h
    cases r with
    | ok a => exact fun κ' G' H' v x r' => q a v κ' G' H' S' (sat.ext x) r' h x
    | exn c fs => exact fun κ' G' H' cls d x r' => h κ' G' σ H' cls d (sat.1.trans x) r'
    | stuck => exact h
theorem postPure {K : PySem.W.Frag} {mg : Str → Option Value} {p : Bool} {B0 : Bs} {S : Cells} {x : ρ} {D : Ends} {W : WX} (h : PostS K mg p B0 (Mon.run (m := m) (Pure.pure x) S) enc D W) :
    PostS K mg p B0 (.ok x, S) enc D W := by
  rw [Mon.run_pure] at h
  exact h

/-! ### the end of a block -/
theorem sx_stuck {ss : List Stmt} : Sx X E ss Ks (Mon.of .stuck : m ρ) enc := by
  intro B0 S κ G σ H sat W tk D h
  rw [Mon.run_of] at h
  exact h.elim
theorem sx_pop {ss : List Stmt} {r : m ρ} (h : Sx X E ss Ks r enc) : Sx X E [] (ss :: Ks) r enc := by
  intro B0 S κ G σ H sat W tk D q
  exact wss_of pss_nil (h B0 S κ G σ H sat W tk D q)
theorem sx_end {x : ρ} (h : enc x = .nx E) : Sx X E [] [] (Pure.pure x : m ρ) enc := by
  intro B0 S κ G σ H sat W tk D q
  have q2 : PostO X.K X.mg (Mon.pu m) B0 S D (enc x) := postPure q
  rw [h] at q2
  exact wss_of pss_nil (q2 κ G σ H sat)
theorem sx_endr : Sx X E [] [] (Pure.pure .non : m Val) .rr := by
  intro B0 S κ G σ H sat W tk D q
  have q2 := (postPure q).2
  exact wss_of pss_nil (q2 rfl κ G σ H sat.1)
/-- a value handed back -/
def IsRt (o : Out) (x : Val) : Prop := o = .rt x ∨ o = .rr x
theorem postRt {K : PySem.W.Frag} {mg : Str → Option Value} {p : Bool} {B0 : Bs} {κ : List Addr} {G H : Hp} {S : Cells} {x : ρ} {y : Val} {v : V} {D : Ends} {W : WX} (h : PostS K mg p B0 (.ok x, S) enc D W) (e : IsRt (enc x) y) (ex : ExtS K mg p B0 κ G H S) (r : Rep K mg κ G y v) : D.rt v H := by
  have h : PostO K mg p B0 S D (enc x) := h
  rcases e with e | e
  · rw [e] at h; exact h κ G H v ex r
  · rw [e] at h; exact h.1 κ G H v ex r
theorem sx_ret {e : Expr} {pos : Pos} {r : m Val} {f : Val → ρ} (h : Ev X E e r) (he : ∀ v, IsRt (enc (f v)) v) : Sx X E (.Return (some e) pos :: rest) Ks (r >>= fun v => Pure.pure (f v)) enc := by
  intro B0 S κ G σ H sat W tk D q
  refine wss_of (pss_cons (ps_ret pe_self) (pss_self (e := rest))) ?_
  refine h B0 S κ G σ H sat.weak W tk _ (bindS sat q fun x v κ1 G1 H1 S1 sat1 r1 h1 ex => ?_)
  have := postRt (postPure h1) (he x) sat1.1 r1
  show (DK X Ks D).rt v H1
  rw [DK_rt]; exact this
theorem sx_ret' {e : Expr} {pos : Pos} {r : m Val} (h : Ev X E e r) : Sx X E (.Return (some e) pos :: rest) Ks r .rr := by
  intro B0 S κ G σ H sat W tk D q
  refine wss_of (pss_cons (ps_ret pe_self) (pss_self (e := rest))) ?_
  refine h B0 S κ G σ H sat.weak W tk _ ?_
  cases z : Mon.run r S with
  | mk r S' =>
    rw [z] at q
    cases r with
    | ok x => exact fun κ' G' H' v x r' => (by show (DK X Ks D).rt v H'; rw [DK_rt]; exact q.1 κ' G' H' v (sat.1.trans x) r')
    | exn c fs => exact fun κ' G' H' cls d x r' => q κ' G' σ H' cls d (sat.1.trans x) r'
    | stuck => exact q
theorem sx_retN {pos : Pos} {x : ρ} (he : IsRt (enc x) .non) : Sx X E (.Return none pos :: rest) Ks (Pure.pure x : m ρ) enc := by
  intro B0 S κ G σ H sat W tk D q
  refine wss_of (pss_cons ps_retN (pss_self (e := rest))) ?_
  show (DK X Ks D).rt .non H
  rw [DK_rt]
  exact postRt (postPure q) he sat.1 (by unfold Rep; rfl)
theorem sx_brk {pos : Pos} {x : ρ} (he : enc x = .bk E) : Sx X E (.Break pos :: rest) Ks (Pure.pure x : m ρ) enc := by
  intro B0 S κ G σ H sat W tk D q
  refine wss_of (pss_cons ps_break (pss_self (e := rest))) ?_
  show (DK X Ks D).bk σ H
  rw [DK_bk]
  have q2 : PostO X.K X.mg (Mon.pu m) B0 S D (enc x) := postPure q
  rw [he] at q2
  exact q2 κ G σ H sat
theorem sx_cont {pos : Pos} {x : ρ} (he : enc x = .ct E) : Sx X E (.Continue pos :: rest) Ks (Pure.pure x : m ρ) enc := by
  intro B0 S κ G σ H sat W tk D q
  refine wss_of (pss_cons ps_continue (pss_self (e := rest))) ?_
  show (DK X Ks D).ct σ H
  rw [DK_ct]
  have q2 : PostO X.K X.mg (Mon.pu m) B0 S D (enc x) := postPure q
  rw [he] at q2
  exact q2 κ G σ H sat
theorem sx_pass {pos : Pos} {r : m ρ} (h : Sx X E rest Ks r enc) : Sx X E (.Pass pos :: rest) Ks r enc := by
  intro B0 S κ G σ H sat W tk D q
  exact wss_of (pss_cons ps_pass (pss_self (e := rest))) (h B0 S κ G σ H sat W tk D q)

/-! ### small statements -/
theorem sx_asg (c : CtxF X N sc k) (i : Nat) {x : Str} {e : Expr} {p pos : Pos} {r : m Val} {f : Val → m ρ} (hl : Lk N sc i x) (hi : i < E.length) (h : Ev X E e r) (hr : ∀ v, Sx X (E.set i (.fz v)) rest Ks (f v) enc) (hc : notComp e = true := by rfl) :
    Sx X E (.Assign [.Name x p] e pos :: rest) Ks (r >>= f) enc := by
  intro B0 S κ G σ H sat W tk D q
  obtain ⟨h1, h2⟩ := hl.n
  refine wss_of (pss_cons (ps_set (i := i) (by rw [c.n]; exact c.nd) (by rw [c.n]; exact h1) (by rw [c.sc]; exact h2) pe_self (swaps_of hc _ _ _) (.inl (c.fn _))) (pss_self (e := rest))) ?_
  refine h B0 S κ G σ H sat.weak W tk _ (bindS sat q fun x v κ1 G1 H1 S1 sat1 r1 h1 ex => ?_)
  exact hr x B0 S1 κ1 G1 _ H1 (sat1.setFz hi r1) W tk D h1
theorem sx_expr {e : Expr} {pos : Pos} {r : m Val} {r2 : m ρ} (h : Ev X E e r) (h2 : Sx X E rest Ks r2 enc) (hc : notComp e = true := by rfl) : Sx X E (.Expr e pos :: rest) Ks (r >>= fun _ => r2) enc := by
  intro B0 S κ G σ H sat W tk D q
  refine wss_of (pss_cons (ps_expr pe_self (swaps_of hc _ _ _)) (pss_self (e := rest))) ?_
  refine h B0 S κ G σ H sat.weak W tk _ (bindS sat q fun x v κ1 G1 H1 S1 sat1 r1 h1 ex => ?_)
  exact h2 B0 S1 κ1 G1 _ H1 sat1 W tk D h1
theorem sx_if {c : Expr} {a b : List Stmt} {pos : Pos} {rc : m Bool} {r1 r2 : m ρ} (hc : Et X E c rc) (h1 : Sx X E a (rest :: Ks) r1 enc) (h2 : Sx X E b (rest :: Ks) r2 enc) :
    Sx X E (.If c a b pos :: rest) Ks (rc >>= fun t => if t = true then r1 else r2) enc := by
  intro B0 S κ G σ H sat W tk D q
  refine wss_of (pss_cons (ps_if pt_self pss_self pss_self) (pss_self (e := rest))) ?_
  refine hc B0 S κ G σ H sat.weak W tk _ (bindS sat q fun x v κ1 G1 H1 S1 sat1 e1 h3 ex => ?_)
  subst e1
  cases x with
  | true =>
    rw [if_pos rfl] at h3 ⊢
    exact h1 B0 S1 κ1 G1 _ H1 sat1 W tk D h3
  | false =>
    rw [if_neg Bool.false_ne_true] at h3 ⊢
    exact h2 B0 S1 κ1 G1 _ H1 sat1 W tk D h3

/-! ### a statement by itself, then the rest -/
/-- how the rest goes on from an outcome -/
def Goes (X : Cx) (rest : List Stmt) (Ks : List (List Stmt)) (o : Out) (r : m ρ) (enc : ρ → Out) : Prop := match o with
  | .nx E1 => Sx X E1 rest Ks r enc
  | .rt x => ∃ y, r = Pure.pure y ∧ IsRt (enc y) x
  | .rr _ => False
  | .bk E1 => ∃ y, r = Pure.pure y ∧ enc y = .bk E1
  | .ct E1 => ∃ y, r = Pure.pure y ∧ enc y = .ct E1
/-- one statement by itself -/
def St1 (X : Cx) (E : Env) (s : Stmt) (r : m ρ) (enc : ρ → Out) : Prop :=
  ∀ B0 S κ G σ H, Sat X.K X.mg (Mon.pu m) B0 E S κ G σ H → ∀ W : WX, Takes X W → ∀ D : Ends, PostS X.K X.mg (Mon.pu m) B0 (Mon.run r S) enc D W → WS X s D σ H
theorem st_cast {s : Stmt} {r r' : m ρ} (h : St1 X E s r enc) (q : r = r') : St1 X E s r' enc := q ▸ h
theorem st_if {c : Expr} {a b : List Stmt} {pos : Pos} {rc : m Bool} {r1 r2 : m ρ} (hc : Et X E c rc) (h1 : Sx X E a [] r1 enc) (h2 : Sx X E b [] r2 enc) :
    St1 X E (.If c a b pos) (rc >>= fun t => if t = true then r1 else r2) enc := by
  intro B0 S κ G σ H sat W tk D q
  refine ws_of (ps_if pt_self pss_self pss_self) ?_
  refine hc B0 S κ G σ H sat.weak W tk _ (bindS sat q fun x v κ1 G1 H1 S1 sat1 e1 h3 ex => ?_)
  subst e1
  cases x with
  | true =>
    rw [if_pos rfl] at h3 ⊢
    exact h1 B0 S1 κ1 G1 _ H1 sat1 W tk D h3
  | false =>
    rw [if_neg Bool.false_ne_true] at h3 ⊢
    exact h2 B0 S1 κ1 G1 _ H1 sat1 W tk D h3
theorem sx_seq {ρ1 : Type} {s : Stmt} {r1 : m ρ1} {enc1 : ρ1 → Out} {f : ρ1 → m ρ} (h : St1 X E s r1 enc1) (hg : ∀ a, Goes X rest Ks (enc1 a) (f a) enc) : Sx X E (s :: rest) Ks (r1 >>= f) enc := by
  intro B0 S κ G σ H sat W tk D q
  refine wss_of (pss_cons (ps_self (e := s)) (pss_self (e := rest))) ?_
  refine h B0 S κ G σ H sat W tk _ ?_
  rw [Mon.run_bind] at q
  have q : PostS X.K X.mg (Mon.pu m) B0 (M.bind (Mon.run r1) (fun a => Mon.run (f a)) S) enc D W := q
  unfold M.bind at q
  cases e : Mon.run r1 S with
  | mk r S' =>
    rw [e] at q
    cases r with
    | ok a =>
      have g := hg a
      have q : PostS X.K X.mg (Mon.pu m) B0 (Mon.run (f a) S') enc D W := q
      show PostO X.K X.mg (Mon.pu m) B0 S' _ (enc1 a)
      cases z : enc1 a with
      | nx E1 => rw [z] at g; exact fun κ G σ H sat1 => g B0 S' κ G σ H sat1 W tk D q
      | rt x =>
        rw [z] at g
        obtain ⟨y, e1, e2⟩ := g
        rw [e1] at q
        intro κ G H v ex r'
        show (DK X Ks D).rt v H
        rw [DK_rt]
        exact postRt (postPure q) e2 ex r'
      | rr x => rw [z] at g; exact g.elim
      | bk E1 =>
        rw [z] at g
        obtain ⟨y, e1, e2⟩ := g
        rw [e1] at q
        have q2 : PostO X.K X.mg (Mon.pu m) B0 S' D (enc y) := postPure q
        rw [e2] at q2
        intro κ G σ H sat1
        show (DK X Ks D).bk σ H
        rw [DK_bk]; exact q2 κ G σ H sat1
      | ct E1 =>
        rw [z] at g
        obtain ⟨y, e1, e2⟩ := g
        rw [e1] at q
        have q2 : PostO X.K X.mg (Mon.pu m) B0 S' D (enc y) := postPure q
        rw [e2] at q2
        intro κ G σ H sat1
        show (DK X Ks D).ct σ H
        rw [DK_ct]; exact q2 κ G σ H sat1
    | exn c fs => exact q
    | stuck => exact q
end
end Tv

namespace Tv
open PySem L2

/-- how a turn of a loop ends -/
inductive Fl (ρ τ : Type) where
  | nx (st : ρ)
  | ct (st : ρ)
  | bk (st : ρ)
  | rt (t : τ)
section
variable {m : Type → Type} [Mon m] {ρ τ : Type}
def forM' (step : ρ → Val → m (Fl ρ τ)) : List Val → ρ → m (Fl ρ τ)
  | [], st => Pure.pure (.nx st)
  | x :: xs, st => step st x >>= fun
    | .nx st' => forM' step xs st'
    | .ct st' => forM' step xs st'
    | .bk st' => Pure.pure (.nx st')
    | .rt t => Pure.pure (.rt t)
def whileM' (tst : ρ → m Bool) (step : ρ → m (Fl ρ τ)) : Nat → ρ → m (Fl ρ τ)
  | 0, _ => Mon.of .stuck
  | n + 1, st => tst st >>= fun b => if b = true then step st >>= fun
    | .nx st' => whileM' tst step n st'
    | .ct st' => whileM' tst step n st'
    | .bk st' => Pure.pure (.nx st')
    | .rt t => Pure.pure (.rt t)
    else Pure.pure (.nx st)
def encL (enc0 : ρ → Env) (tv : τ → Val) : Fl ρ τ → Out
  | .nx st => .nx (enc0 st)
  | .ct st => .ct (enc0 st)
  | .bk st => .bk (enc0 st)
  | .rt t => .rt (tv t)
end

/-! ### what is walked -/
structure ItR (K : PySem.W.Frag) (mg : Str → Option Value) (κ : List Addr) (G : Hp) (items : List Val) (J : It) : Prop where
  go : ∀ i H, Le G H → i < items.length → J.go i H
  stop : ∀ H, Le G H → J.stop items.length H
  yld : ∀ i H x H', Le G H → J.yld i H x H' → ∀ it, items[i]? = some it → (H' = H ∧ Rep K mg κ G it x) ∨ ∃ T vs ys, H T = none ∧ H' = L2.upd H T (.tup vs) ∧ x = .ref T ∧ it = .tup ys ∧ RepL K mg κ G ys vs
structure WI (X : Cx) (tg iter : Expr) (σ : St) (H : Hp) (R : It → Hp → Prop) : Prop where
  run : ∀ (pins : List (Addr × Obj)) (s : Shared), L2.Inv X pins σ H s →
  wpAny (model X.prog X.w) X.A (eval iter X.env) (fun v s1 => wpAny (model X.prog X.w) X.A (pyIter v) (PIE X pins σ tg R) X.xe s1) X.xe s
theorem pi_self {X : Cx} {tg iter : Expr} : PI X tg iter (WI X tg iter) := ⟨fun pins s _ _ _ I h => h.run pins s I⟩
theorem wi_of {X : Cx} {tg iter : Expr} {wi : TI} (h : PI X tg iter wi) {σ : St} {H : Hp} {R : It → Hp → Prop} (q : wi σ H R) : WI X tg iter σ H R := ⟨fun pins s I => h.run pins s σ H R I q⟩
structure WG (X : Cx) (tg : Expr) (v : V) (σ : St) (H : Hp) (Q : St → Hp → Prop) : Prop where
  run : ∀ (pins : List (Addr × Obj)) (s : Shared) (u : Value), L2.Inv X pins σ H s → RelV v u →
  wpAny (model X.prog X.w) X.A (assign tg X.env u) (fun _ s' => ∃ σ' H', L2.Inv X pins σ' H' s' ∧ Q σ' H') X.xe s
theorem pg_self {X : Cx} {tg : Expr} : PG X tg (WG X tg) := ⟨fun pins s _ _ v u _ I r h => h.run pins s u I r⟩
theorem wg_of {X : Cx} {tg : Expr} {g : TG} (h : PG X tg g) {v : V} {σ : St} {H : Hp} {Q : St → Hp → Prop} (q : g v σ H Q) : WG X tg v σ H Q := ⟨fun pins s u I r => h.run pins s σ H v u Q I r q⟩

section
variable {X : Cx} {N : List Str} {sc : Scope} {k : Nat} {E : Env} {m : Type → Type} [Mon m] {ρ : Type} {enc : ρ → Out}
def Wi (X : Cx) (E : Env) (tg iter : Expr) (r : m (List Val)) : Prop :=
  ∀ B0 S κ G σ H, Sat X.K X.mg false B0 E S κ G σ H → ∀ W : WX, Takes X W → ∀ R : It → Hp → Prop, Post X.K X.mg (Mon.pu m) (ItR X.K X.mg) κ G H S (Mon.run r S) R (fun c d H' => W c d σ H') → WI X tg iter σ H R
/-- the target takes x, then the block -/
def Tb (X : Cx) (E : Env) (tg : Expr) (x : Val) (body : List Stmt) (r : m ρ) (enc : ρ → Out) : Prop :=
  ∀ B0 S κ G σ H, Sat X.K X.mg (Mon.pu m) B0 E S κ G σ H → ∀ v, Rep X.K X.mg κ G x v → ∀ W : WX, Takes X W → ∀ D : Ends, PostS X.K X.mg (Mon.pu m) B0 (Mon.run r S) enc D W →
    WG X tg v σ H fun σ2 H2 => WSs X body D σ2 H2
theorem Ctx.pg (c : Ctx X N sc k) {i : Nat} {x : Str} {pos : Pos} (hl : Lc N sc i x) : PG X (.Name x pos) (gName i) := by
  obtain ⟨h1, h2⟩ := hl.n
  exact pg_name (by rw [c.n]; exact c.nd) (by rw [c.n]; exact h1) (by rw [c.sc]; exact .inl h2) (.inr (by rw [c.sc]; exact h2))
theorem CtxF.pgk (c : CtxF X N sc k) {i : Nat} {x : Str} {pos : Pos} (hl : Lk N sc i x) : PG X (.Name x pos) (gName i) := by
  obtain ⟨h1, h2⟩ := hl.n
  exact pg_name (by rw [c.n]; exact c.nd) (by rw [c.n]; exact h1) (by rw [c.sc]; exact h2) (.inl (c.fn _))
theorem tb_name (c : CtxF X N sc k) (i : Nat) {x : Str} {pos : Pos} {v : Val} {body : List Stmt} {r : m ρ} (hl : Lk N sc i x) (hi : i < E.length) (h : Sx X (E.set i (.fz v)) body [] r enc) : Tb X E (.Name x pos) v body r enc := by
  intro B0 S κ G σ H sat u ru W tk D q
  exact wg_of (c.pgk hl) (h B0 S κ G _ H (sat.setFz hi ru) W tk D q)
def on2 {α : Type} (x : Val) (f : Val → Val → m α) : m α := match x with
  | .tup [a, b] => f a b
  | _ => Mon.of .stuck
def on3 {α : Type} (x : Val) (f : Val → Val → Val → m α) : m α := match x with
  | .tup [a, b, c] => f a b c
  | _ => Mon.of .stuck
theorem on2_cases {α : Type} (x : Val) (f : Val → Val → m α) : (∃ a b, x = .tup [a, b] ∧ on2 x f = f a b) ∨ on2 x f = Mon.of .stuck := by
  unfold on2
  split
  · exact .inl ⟨_, _, rfl, rfl⟩
  · exact .inr rfl
theorem tb_tup2 (c : CtxF X N sc k) (i j : Nat) {x y : Str} {p1 p2 pos : Pos} {kk} {v : Val} {body : List Stmt} {r : Val → Val → m ρ} (hx : Lk N sc i x) (hy : Lk N sc j y) (hi : i < E.length) (hj : j < E.length)
    (h : ∀ a b, Sx X ((E.set i (.fz a)).set j (.fz b)) body [] (r a b) enc) : Tb X E (.Tuple [.Name x p1, .Name y p2] kk pos) v body (on2 v r) enc := by
  intro B0 S κ G σ H sat u ru W tk D q
  refine wg_of (pg_tup (n := 2) c.calm (pgs_cons (c.pgk hx) (pgs_cons (c.pgk hy) pgs_nil))) ?_
  rcases on2_cases v r with ⟨a, b, e, er⟩ | er
  · rw [er] at q
    subst e
    unfold Rep at ru
    obtain ⟨ad, vs, e1, hq, rl⟩ := ru
    subst e1
    unfold RepL at rl
    obtain ⟨va, r1, e2, ra, rl⟩ := rl
    unfold RepL at rl
    obtain ⟨vb, r2, e3, rb, rl⟩ := rl
    unfold RepL at rl
    subst e2 e3 rl
    refine ⟨ad, _, rfl, sat.w.le.sqT hq, rfl, va, _, rfl, vb, _, rfl, rfl, ?_⟩
    have s1 := sat.setFz hi ra
    have s2 := s1.setFz (i := j) (by simpa using hj) rb
    exact h a b B0 S κ G _ H s2 W tk D q
  · rw [er, Mon.run_of] at q
    exact q.elim

/-! ### for -/
theorem forM'_run_nil {τ : Type} {step : ρ → Val → m (Fl ρ τ)} {st : ρ} {S : Cells} : Mon.run (forM' step [] st) S = (.ok (.nx st), S) := by
  unfold forM'
  rw [Mon.run_pure]; rfl
def Bs.fl (B : Bs) (κ : List Addr) (G : Hp) : Bs := { B with κf := κ, Gf := G }
theorem ExtS.unfl {K : PySem.W.Frag} {mg : Str → Option Value} {b : Bool} {B0 : Bs} {κ1 κ : List Addr} {G1 G H : Hp} {S : Cells} (pf : Pre B0.κf κ1) (lf : Le B0.Gf G1) (h : ExtS K mg b (B0.fl κ1 G1) κ G H S) : ExtS K mg b B0 κ G H S := ⟨h.x, pf.trans h.pf, lf.trans h.lf⟩
theorem Sat.unfl {K : PySem.W.Frag} {mg : Str → Option Value} {b : Bool} {B0 : Bs} {κ1 κ : List Addr} {G1 G H : Hp} {S : Cells} {σ : St} (pf : Pre B0.κf κ1) (lf : Le B0.Gf G1) (h : Sat K mg b (B0.fl κ1 G1) E S κ G σ H) : Sat K mg b B0 E S κ G σ H := by
  obtain ⟨x, r⟩ := h
  exact ⟨x.unfl pf lf, r⟩
theorem Sat.fl {K : PySem.W.Frag} {mg : Str → Option Value} {b : Bool} {B0 : Bs} {κ1 κ : List Addr} {G1 G H : Hp} {S : Cells} {σ : St} (pf : Pre κ1 κ) (lf : Le G1 G) (h : Sat K mg b B0 E S κ G σ H) : Sat K mg b (B0.fl κ1 G1) E S κ G σ H := by
  obtain ⟨x, r⟩ := h
  exact ⟨⟨x.x, pf, lf⟩, r⟩
/-- a turn's own end, from the whole loop's -/
theorem turn_post {τ : Type} {K : PySem.W.Frag} {mg : Str → Option Value} {p : Bool} {B0 : Bs} {κ1 : List Addr} {G1 : Hp} {S' : Cells} {enc0 : ρ → Env} {tv : τ → Val} {D : Ends} {W : WX} {r : M (Fl ρ τ)} {go : ρ → M (Fl ρ τ)} {Nx : St → Hp → Prop}
    (pf : Pre B0.κf κ1) (lf : Le B0.Gf G1)
    (h : PostS K mg p B0 (M.bind r (fun fl => match fl with | .nx st' => go st' | .ct st' => go st' | .bk st' => Pure.pure (.nx st') | .rt t => Pure.pure (.rt t)) S') (encL enc0 tv) D W)
    (hN : ∀ st S' κ' G' σ' H', Sat K mg p (B0.fl κ1 G1) (enc0 st) S' κ' G' σ' H' → PostS K mg p B0 (go st S') (encL enc0 tv) D W → Nx σ' H') :
    PostS K mg p (B0.fl κ1 G1) (r S') (encL enc0 tv) { D with nx := Nx, ct := Nx, bk := D.nx } W := by
  unfold M.bind at h
  cases e : r S' with
  | mk q S2 =>
    rw [e] at h
    cases q with
    | stuck => exact h
    | exn c fs => exact fun κ G σ H cls d x => h κ G σ H cls d (x.unfl pf lf)
    | ok fl =>
      cases fl with
      | nx st => exact fun κ G σ H sat => hN st S2 κ G σ H sat h
      | ct st => exact fun κ G σ H sat => hN st S2 κ G σ H sat h
      | bk st => exact fun κ G σ H sat => (show PostO K mg p B0 S2 D (.nx (enc0 st)) from h) κ G σ H (sat.unfl pf lf)
      | rt t => exact fun κ G H v x => (show PostO K mg p B0 S2 D (.rt (tv t)) from h) κ G H v (x.unfl pf lf)
theorem forM'_run_cons {τ : Type} {step : ρ → Val → m (Fl ρ τ)} {st : ρ} {x : Val} {xs : List Val} {S : Cells} : Mon.run (forM' step (x :: xs) st) S = M.bind (Mon.run (step st x)) (fun fl => match fl with | .nx st' => Mon.run (forM' step xs st') | .ct st' => Mon.run (forM' step xs st') | .bk st' => Pure.pure (.nx st') | .rt t => Pure.pure (.rt t)) S := by
  conv => lhs; unfold forM'
  rw [Mon.run_bind]
  show M.bind _ _ S = M.bind _ _ S
  congr 1
  funext fl
  cases fl <;> first | rfl | exact Mon.run_pure _
theorem for_core (c : Ctx X N sc k) {τ : Type} {tg iter : Expr} {body : List Stmt} {pos : Pos} {ri : m (List Val)} {step : ρ → Val → m (Fl ρ τ)} (enc0 : ρ → Env) (tv : τ → Val) (is : List Nat) (st0 : ρ) (hE : unset E is = enc0 st0)
    (hb : ∀ st x, Tb X (enc0 st) tg x body (step st x) (encL enc0 tv)) (hfs : ∀ env x, foldedSetIterable iter env x = pure x)
    {B0 : Bs} {S : Cells} {κ : List Addr} {G : Hp} {σ : St} {H : Hp} (sat : Sat X.K X.mg (Mon.pu m) B0 E S κ G σ H) {W : WX} (tk : Takes X W) {D : Ends}
    (hw : ∀ R : It → Hp → Prop, Post X.K X.mg (Mon.pu m) (ItR X.K X.mg) κ G H S (Mon.run ri S) R (fun c d H' => W c d σ H') → WI X tg iter σ H R)
    (q : PostS X.K X.mg (Mon.pu m) B0 (Mon.run (ri >>= fun xs => forM' step xs st0) S) (encL enc0 tv) D W) : WS X (.For tg iter body [] pos) D σ H := by
  refine ws_of (ps_for c.po c.calm pi_self pg_self pss_self (hfs _)) ?_
  refine hw _ (bindS sat q fun items J κ1 G1 H1 S1 sat1 r1 h1 ex => ?_)
  have pf := sat1.1.pf
  have lf := sat1.1.lf
  have sat2 : Sat X.K X.mg (Mon.pu m) (B0.fl κ1 G1) (enc0 st0) S1 κ1 G1 σ H1 := (hE ▸ sat1.unset is).fl (Pre.refl _) (Le.refl _)
  refine ⟨fun i n σ' H' => i ≤ items.length ∧ n = items.length - i ∧ ∃ st S' κ' G', Sat X.K X.mg (Mon.pu m) (B0.fl κ1 G1) (enc0 st) S' κ' G' σ' H' ∧ PostS X.K X.mg (Mon.pu m) B0 (Mon.run (forM' step (items.drop i) st) S') (encL enc0 tv) D W,
    ⟨_, Nat.zero_le _, rfl, st0, S1, κ1, G1, sat2, h1⟩, ?_⟩
  rintro i n σ' H' ⟨hi, hn, st, S', κ', G', sat', hp⟩
  have lg : Le G1 G' := sat'.1.lf
  have pk : Pre κ1 κ' := sat'.1.pf
  by_cases hlt : i < items.length
  · right
    obtain ⟨Nx, hNx⟩ : ∃ Nx : St → Hp → Prop, Nx = fun σ2 H2 => ∃ st S' κ' G', Sat X.K X.mg (Mon.pu m) (B0.fl κ1 G1) (enc0 st) S' κ' G' σ2 H2 ∧ PostS X.K X.mg (Mon.pu m) B0 (Mon.run (forM' step (items.drop (i + 1)) st) S') (encL enc0 tv) D W := ⟨_, rfl⟩
    refine ⟨r1.go i H' (lg.trans sat'.w.le) hlt, Nx, fun σ2 H2 h2 => ⟨items.length - (i + 1), by omega, by omega, rfl, by rw [hNx] at h2; exact h2⟩, fun x Hy hy => ?_⟩
    have hit : items[i]? = some items[i] := List.getElem?_eq_getElem hlt
    rw [List.drop_eq_getElem_cons hlt, forM'_run_cons] at hp
    have turn : ∀ κ2 G2 Hz v, Sat X.K X.mg (Mon.pu m) (B0.fl κ1 G1) (enc0 st) S' κ2 G2 σ' Hz → Rep X.K X.mg κ2 G2 items[i] v → WG X tg v σ' Hz fun σ2 H2 => WSs X body { D with nx := Nx, ct := Nx, bk := D.nx } σ2 H2 := fun κ2 G2 Hz v satz rz =>
      hb st items[i] (B0.fl κ1 G1) S' κ2 G2 σ' Hz satz v rz W tk _ (turn_post pf lf hp fun st S' κ' G' σ' H' sa po => (by rw [hNx]; exact ⟨st, S', κ', G', sa, po⟩))
    rcases r1.yld i H' x Hy (lg.trans sat'.w.le) hy items[i] hit with ⟨e1, rx⟩ | ⟨T, vs, ys, hT, e1, e2, e3, ry⟩
    · subst e1
      exact turn κ' G' Hy x sat' (rx.mono pk lg)
    · subst e1 e2
      have ex2 : ExtB X.K X.mg (Mon.pu m) κ' G' H' S' κ' (L2.upd G' T (.tup vs)) (L2.upd H' T (.tup vs)) S' := ⟨(sat'.w.upd hT).e, fun _ => (sat'.w.upd hT).p rfl⟩
      refine turn κ' _ _ _ (sat'.ext ex2) ?_
      rw [e3]
      unfold Rep
      exact ⟨T, vs, rfl, .inl (.inl upd_same), (ry.mono pk lg).mono (Pre.refl _) ex2.e.le⟩
  · have e : i = items.length := by omega
    subst e
    left
    rw [List.drop_length, forM'_run_nil] at hp
    exact ⟨r1.stop H' (lg.trans sat'.w.le), (show PostO X.K X.mg (Mon.pu m) B0 S' D (.nx (enc0 st)) from hp) κ' G' σ' H' (sat'.unfl pf lf)⟩

theorem st_for (c : Ctx X N sc k) {τ : Type} {tg iter : Expr} {body : List Stmt} {pos : Pos} {ri : m (List Val)} {step : ρ → Val → m (Fl ρ τ)} (enc0 : ρ → Env) (tv : τ → Val) (is : List Nat) (st0 : ρ) (hE : unset E is = enc0 st0)
    (hw : Wi X E tg iter ri) (hb : ∀ st x, Tb X (enc0 st) tg x body (step st x) (encL enc0 tv)) (hfs : ∀ env x, foldedSetIterable iter env x = pure x := by intros; rfl) :
    St1 X E (.For tg iter body [] pos) (ri >>= fun xs => forM' step xs st0) (encL enc0 tv) := fun B0 S κ G σ H sat W tk D q =>
  for_core c enc0 tv is st0 hE hb hfs sat tk (fun R p => hw B0 S κ G σ H sat.weak W tk R p) q

/-! ### while -/
theorem st_while (c : Ctx X N sc k) {τ : Type} {test : Expr} {body : List Stmt} {pos : Pos} {tst : ρ → m Bool} {step : ρ → m (Fl ρ τ)} (enc0 : ρ → Env) (tv : τ → Val) (is : List Nat) (st0 : ρ) (n0 : Nat) (hE : unset E is = enc0 st0)
    (ht : ∀ st, Et X (enc0 st) test (tst st)) (hb : ∀ st, Sx X (enc0 st) body [] (step st) (encL enc0 tv)) :
    St1 X E (.While test body [] pos) (whileM' tst step n0 st0) (encL enc0 tv) := by
  intro B0 S κ G σ H sat W tk D q
  refine ws_of (ps_while c.po pt_self pss_self) ?_
  have sat2 : Sat X.K X.mg (Mon.pu m) B0 (enc0 st0) S κ G σ H := hE ▸ sat.unset is
  refine ⟨fun n σ' H' => ∃ st S' κ' G', Sat X.K X.mg (Mon.pu m) B0 (enc0 st) S' κ' G' σ' H' ∧ PostS X.K X.mg (Mon.pu m) B0 (Mon.run (whileM' tst step n st) S') (encL enc0 tv) D W, ⟨n0, st0, S, κ, G, sat2, q⟩, ?_⟩
  rintro n σ' H' ⟨st, S', κ', G', sat', hp⟩
  cases n with
  | zero =>
    unfold whileM' at hp
    rw [Mon.run_of] at hp
    exact hp.elim
  | succ n =>
    unfold whileM' at hp
    refine ht st B0 S' κ' G' σ' H' sat'.weak W tk _ (bindS sat' hp fun x v κ1 G1 H1 S1 sat1 e1 h3 ex => ?_)
    subst e1
    cases x with
    | false =>
      rw [if_neg Bool.false_ne_true] at h3 ⊢
      exact (show PostO X.K X.mg (Mon.pu m) B0 S1 D (.nx (enc0 st)) from postPure h3) κ1 G1 σ' H1 sat1
    | true =>
      rw [if_pos rfl] at h3 ⊢
      refine ⟨fun σ2 H2 => ∃ st S' κ' G', Sat X.K X.mg (Mon.pu m) B0 (enc0 st) S' κ' G' σ2 H2 ∧ PostS X.K X.mg (Mon.pu m) B0 (Mon.run (whileM' tst step n st) S') (encL enc0 tv) D W, fun σ2 H2 h2 => ⟨n, Nat.lt_succ_self n, h2⟩, ?_⟩
      refine hb st B0 S1 κ1 G1 σ' H1 sat1 W tk _ ?_
      have h4 : PostS X.K X.mg (Mon.pu m) B0 (M.bind (Mon.run (step st)) (fun fl => match fl with | .nx st' => Mon.run (whileM' tst step n st') | .ct st' => Mon.run (whileM' tst step n st') | .bk st' => Pure.pure (.nx st') | .rt t => Pure.pure (.rt t)) S1) (encL enc0 tv) D W := by
        rw [Mon.run_bind] at h3
        have e : ∀ S, (M.bind (Mon.run (step st)) (fun fl => match fl with | .nx st' => Mon.run (whileM' tst step n st') | .ct st' => Mon.run (whileM' tst step n st') | .bk st' => Pure.pure (.nx st') | .rt t => Pure.pure (.rt t)) S) = (Mon.run (step st) >>= fun a => Mon.run (match a with | .nx st' => whileM' tst step n st' | .ct st' => whileM' tst step n st' | .bk st' => Pure.pure (.nx st') | .rt t => Pure.pure (.rt t) : m (Fl ρ τ))) S := by
          intro S
          show M.bind _ _ S = M.bind _ _ S
          congr 1
          funext fl
          cases fl <;> first | rfl | exact (Mon.run_pure _).symm
        rw [e]
        exact h3
      unfold M.bind at h4
      cases e : Mon.run (step st) S1 with
      | mk r S2 =>
        rw [e] at h4
        cases r with
        | stuck => exact h4
        | exn c fs => exact h4
        | ok fl =>
          cases fl with
          | nx st => exact fun κ G σ H sat => ⟨st, S2, κ, G, sat, h4⟩
          | ct st => exact fun κ G σ H sat => ⟨st, S2, κ, G, sat, h4⟩
          | bk st => exact fun κ G σ H sat => (show PostO X.K X.mg (Mon.pu m) B0 S2 D (.nx (enc0 st)) from h4) κ G σ H sat
          | rt t => exact h4
end
end Tv

namespace Tv
open PySem L2

section
variable {m : Type → Type} [Mon m]
/-- a comprehension: what each turn gives, if anything -/
def lcM (step : Val → m (Option Val)) : List Val → m (List Val)
  | [] => Pure.pure []
  | x :: xs => step x >>= fun o => lcM step xs >>= fun ys => Pure.pure (o.toList ++ ys)
def mapM' (f : Val → m Val) : List Val → m (List Val)
  | [] => Pure.pure []
  | x :: xs => f x >>= fun y => mapM' f xs >>= fun ys => Pure.pure (y :: ys)
end
theorem M.bind_assoc {α β γ : Type} (x : M α) (f : α → M β) (g : β → M γ) : M.bind (M.bind x f) g = M.bind x fun a => M.bind (f a) g := by
  funext S
  unfold M.bind
  cases x S with
  | mk r S1 => cases r <;> rfl
theorem M.pure_bind {α β : Type} (a : α) (f : α → M β) : M.bind (Pure.pure a) f = f a := rfl
theorem noExn_bind {α β : Type} (x : M α) (f : α → M β) : noExn (M.bind x f) = M.bind (noExn x) fun a => noExn (f a) := by
  funext S
  unfold noExn M.bind
  cases e : x S with
  | mk r S1 => cases r <;> simp only [e]
theorem noExn_pure {α : Type} (a : α) : noExn (Pure.pure a) = Pure.pure a := rfl
section
variable {m : Type → Type} [Mon m]
theorem run_mapM' {f : Val → m Val} : ∀ xs, Mon.run (mapM' f xs) = Mon.run (lcM (fun x => f x >>= fun y => Pure.pure (some y)) xs)
  | [] => rfl
  | x :: xs => by
    unfold mapM' lcM
    simp only [Mon.run_bind, Mon.run_pure]
    rw [run_mapM' xs]
    show M.bind _ _ = M.bind (M.bind _ _) _
    rw [M.bind_assoc]
    rfl
end
def PTsW (X : Cx) (ifs : List Expr) : TT := fun σ H Q => ∀ t, PTs X ifs t → t σ H Q

section
variable {X : Cx} {N : List Str} {sc : Scope} {k : Nat} {E : Env} {m : Type → Type} [Mon m]
/-- a block's context -/
abbrev bX (X : Cx) (scope : Scope) (s : Shared) (H : Hp) (C : Addr) (cl : List (Str × Addr)) (fp : List Addr) : Cx := X.blk s H scope (compEnvC scope cl C X.env) fp
theorem Ctx.blk (c : Ctx X N sc k) (scope : Scope) (s : Shared) (H : Hp) (C : Addr) (cl : List (Str × Addr)) (fp : List Addr) : Ctx (bX X scope s H C cl fp) N (relS scope sc) k :=
  ⟨c.n, by show relS scope X.env.scope = _; rw [c.sc], c.calm, c.nd, c.gd, c.room, PassesOwn.never⟩
/-- a name of the block's own -/
def locBl (N : List Str) (sc scope : Scope) (i : Nat) (x : Str) : Bool := decide (N[i]? = some x) && (decide ((relS scope sc).names.lookup x = some .local) || (decide (scope.names.lookup x = some .cell) && decide ((relS scope sc).names.lookup x = some .cell)))
structure Lb (N : List Str) (sc scope : Scope) (i : Nat) (x : Str) : Prop where
  h : locBl N sc scope i x = true
theorem Ctx.pgb (c : Ctx X N sc k) {scope : Scope} {s : Shared} {H : Hp} {C : Addr} {cl : List (Str × Addr)} {fp : List Addr} {i : Nat} {x : Str} {pos : Pos} (hl : Lb N sc scope i x) : PG (bX X scope s H C cl fp) (.Name x pos) (gName i) := by
  have b := c.blk scope s H C cl fp
  have h := hl.h
  unfold locBl at h
  simp only [Bool.and_eq_true, Bool.or_eq_true, decide_eq_true_eq] at h
  obtain ⟨h1, h2⟩ := h
  rcases h2 with h2 | ⟨h2, h3⟩
  · exact pg_name (by rw [b.n]; exact b.nd) (by rw [b.n]; exact h1) (by rw [b.sc]; exact .inl h2) (.inr (by rw [b.sc]; exact h2))
  · refine pg_name (by rw [b.n]; exact b.nd) (by rw [b.n]; exact h1) (by rw [b.sc]; exact .inr h3) (.inl ?_)
    show (scope.names.lookup x == some .cell) = true
    rw [h2]; rfl
/-- an element, a test, for every block -/
def EvB (X : Cx) (scope : Scope) (E : Env) (e : Expr) (r : m Val) : Prop := ∀ s H C cl fp, Ev (bX X scope s H C cl fp) E e r
def EtB (X : Cx) (scope : Scope) (E : Env) (e : Expr) (r : m Bool) : Prop := ∀ s H C cl fp, Et (bX X scope s H C cl fp) E e r
/-- the target of a comprehension, its slots vs -/
structure TgB (X : Cx) (scope : Scope) (vs : List Nat) (tg : Expr) (f : Val → Env → Option Env) : Type where
  g : TG
  pg : ∀ s H C cl fp, PG (bX X scope s H C cl fp) tg g
  set : ∀ (b : Bool) (B0 : Bs) (E : Env) (S : Cells) κ G σ H x v E', Sat X.K X.mg b B0 E S κ G σ H → Rep X.K X.mg κ G x v → f x E = some E' → ∀ Q : St → Hp → Prop,
    (∀ σ2, Sat X.K X.mg b B0 E' S κ G σ2 H → L2.wipe σ2 vs = L2.wipe σ vs → Q σ2 H) → g v σ H Q
theorem wipe_set {σ : St} {i : Nat} {ov : Option V} : ∀ {vs : List Nat}, i ∈ vs → L2.wipe (σ.set i ov) vs = L2.wipe σ vs
  | [], h => nomatch h
  | v :: vs, h => by
    unfold L2.wipe
    by_cases e : i ∈ vs
    · rw [wipe_set e]
    · have e1 : i = v := by
        rcases List.mem_cons.mp h with z | z
        · exact z
        · exact absurd z e
      subst e1
      have go : ∀ vs : List Nat, i ∉ vs → L2.wipe (σ.set i ov) vs = (L2.wipe σ vs).set i ov := by
        intro vs
        induction vs with
        | nil => intro _; rfl
        | cons w ws ih =>
          intro hn
          unfold L2.wipe
          rw [ih (fun z => hn (List.mem_cons_of_mem _ z)), List.set_comm _ _ (fun z => hn (by rw [z]; exact List.mem_cons_self))]
      rw [go vs e, List.set_set]
def fName (i : Nat) : Val → Env → Option Env := fun x E => if i < E.length then some (E.set i (.fz x)) else none
def fTup2 (i j : Nat) : Val → Env → Option Env := fun x E => match x with
  | .tup [a, b] => if i < E.length ∧ j < E.length then some ((E.set i (.fz a)).set j (.fz b)) else none
  | _ => none
def tgName (c : Ctx X N sc k) {scope : Scope} {vs : List Nat} (i : Nat) {x : Str} {pos : Pos} (hl : Lb N sc scope i x) (hv : i ∈ vs) : TgB X scope vs (.Name x pos) (fName i) where
  g := gName i
  pg := fun s H C cl fp => c.pgb hl
  set := fun b B0 E S κ G σ H x v E' sat r e Q q => by
    unfold fName at e
    split at e
    · cases e
      exact q _ (sat.setFz (by assumption) r) (wipe_set hv)
    · cases e
def tgTup2 (c : Ctx X N sc k) {scope : Scope} {vs : List Nat} (i j : Nat) {x y : Str} {p1 p2 pos : Pos} {kk} (hx : Lb N sc scope i x) (hy : Lb N sc scope j y) (hi : i ∈ vs) (hj : j ∈ vs) : TgB X scope vs (.Tuple [.Name x p1, .Name y p2] kk pos) (fTup2 i j) where
  g := gTup X.K 2 (gCons (gName i) (gCons (gName j) gNil))
  pg := fun s H C cl fp => pg_tup (n := 2) (c.blk scope s H C cl fp).calm (pgs_cons (c.pgb hx) (pgs_cons (c.pgb hy) pgs_nil))
  set := fun b B0 E S κ G σ H x v E' sat r e Q q => by
    unfold fTup2 at e
    split at e
    · split at e
      · cases e
        unfold Rep at r
        obtain ⟨ad, ws, e1, hq, rl⟩ := r
        subst e1
        unfold RepL at rl
        obtain ⟨va, r1, e2, ra, rl⟩ := rl
        unfold RepL at rl
        obtain ⟨vb, r2, e3, rb, rl⟩ := rl
        unfold RepL at rl
        subst e2 e3 rl
        rename_i hh
        refine ⟨ad, _, rfl, sat.w.le.sqT hq, rfl, va, _, rfl, vb, _, rfl, rfl, ?_⟩
        exact q _ ((sat.setFz hh.1 ra).setFz (by simpa using hh.2) rb) (by rw [wipe_set hj, wipe_set hi])
      · cases e
    · cases e
theorem Sat.head1 {K : PySem.W.Frag} {mg : Str → Option Value} {b : Bool} {B0 : Bs} {κ : List Addr} {G H : Hp} {S : Cells} {σ : St} {xs : List Val} {D : Addr} (h : Sat K mg b B0 (.o1 xs :: E) S κ G (some (.ref D) :: σ) H) :
    ∃ vs, H D = some (.lst vs) ∧ RepL K mg κ G xs vs ∧ G D = none ∧ D ∉ κ ∧ B0.H D = none := by
  obtain ⟨x, L, ⟨ov, r, L1, Lr, e1, e2, h1, h2⟩, nd, q⟩ := h
  cases e1
  obtain ⟨a, vs, z1, z2, z3, z4⟩ := h1
  cases z2
  subst z1 e2
  obtain ⟨q1, q2, q3, q4⟩ := q D (by simp)
  exact ⟨vs, z3, z4, q2, q3, q1⟩
/-- a frozen end of an owned list at the head of the slots -/
theorem vLst_len {K : PySem.W.Frag} {mg : Str → Option Value} {p : Bool} {κ : List Addr} {G H : Hp} {S S1 : Cells} {r : M (List Val)} {acc : List Val} {Q : VK} {W : Value → Option Addr → Hp → Prop}
    (h : Post K mg p (Rep K mg) κ G H S (M.bind (noExn r) (fun ys => lift (vLst (acc ++ ys))) S1) Q W) : acc.length ≤ sizeLine := by
  unfold M.bind noExn at h
  cases e : r S1 with
  | mk q S2 =>
    rw [e] at h
    cases q with
    | stuck => exact h.elim
    | exn c fs => exact h.elim
    | ok ys =>
      have h : Post K mg p (Rep K mg) κ G H S (vLst (acc ++ ys), S2) Q W := h
      unfold vLst at h
      split at h
      · rename_i hl
        rw [List.length_append] at hl
        omega
      · exact h.elim
/-- a comprehension: its value, and the statement that stores it in a local name -/
def EvLc (X : Cx) (E : Env) (e : Expr) (r : m Val) : Prop := Ev X E e r ∧
  ∀ (i : Nat) (y : Str) (py spos : Pos), X.N[i]? = some y → X.env.scope.names.lookup y = some .local → swapsWith e (some (.Name y py)) spos.line X.env = pure true →
    ∀ B0 S κ G σ H, Sat X.K X.mg false B0 E S κ G σ H → ∀ W : WX, Takes X W → ∀ D : Ends, Post X.K X.mg (Mon.pu m) (Rep X.K X.mg) κ G H S (Mon.run r S) (fun v H' => D.nx (σ.set i (some v)) H') (fun c d H' => W c d σ H') → WS X (.Assign [.Name y py] e spos) D σ H
theorem EvLc.cast {e : Expr} {r r' : m Val} (h : EvLc X E e r) (q : Mon.run r' = Mon.run r) : EvLc X E e r' :=
  ⟨fun B0 S κ G σ H sat W tk Q p => h.1 B0 S κ G σ H sat W tk Q (by rw [← q]; exact p), fun i y py spos h1 h2 h3 B0 S κ G σ H sat W tk D p => h.2 i y py spos h1 h2 h3 B0 S κ G σ H sat W tk D (by rw [← q]; exact p)⟩
/-- THE CORE: a comprehension whose turns are told -/
theorem lc_go (c : Ctx X N sc k) {scope : Scope} {own : List (Str × Nat)} {elt tg iter : Expr} {ifs : List Expr} {pos : Pos} {ri : m (List Val)} {f : Val → Env → Option Env} {step : Val → m (Option Val)} {tt : TT} {te : TE} (T : TgB X scope (own.map (·.2)) tg f) (ok : BlkOk N sc scope own) (hw : Wi X E tg iter ri)
    (ht : ∀ s H C cl fp, PTs (bX X scope s H C cl fp) ifs tt) (he : ∀ s H C cl fp, PE (bX X scope s H C cl fp) elt te)
    (hs : ∀ x E', f x (unset E (own.map (·.2))) = some E' → ∀ (B0 : Bs) S κ G σ H, Sat X.K X.mg false B0 E' S κ G σ H → ∀ Q : Option V → Hp → Prop,
      Post X.K X.mg (Mon.pu m) (fun κ G o ov => (o = none ∧ ov = none) ∨ ∃ y v, o = some y ∧ ov = some v ∧ Rep X.K X.mg κ G y v) κ G H S (Mon.run (step x) S) Q (fun _ _ _ => False) →
      tt σ H fun b H3 => if b = true then te σ H3 (fun u H4 => Q (some u) H4) else Q none H3)
    (hn : ∀ x, f x (unset E (own.map (·.2))) = none → ∀ S, ∃ S', Mon.run (step x) S = (.stuck, S'))
    (hfs : ∀ env x, foldedSetIterable iter env x = pure x := by intros; rfl) :
    EvLc X E (.ListComp elt [⟨tg, iter, ifs, 0⟩] scope pos) (ri >>= fun xs => Mon.nx (lcM step xs) >>= fun ys => Mon.of (vLst ys)) := by
  suffices core : ∀ B0 S κ G σ H, Sat X.K X.mg false B0 E S κ G σ H → ∀ W : WX, Takes X W → ∀ Q : VK, Post X.K X.mg (Mon.pu m) (Rep X.K X.mg) κ G H S (Mon.run (m := m) (ri >>= fun xs => Mon.nx (lcM step xs) >>= fun ys => Mon.of (vLst ys)) S) Q (fun c d H' => W c d σ H') → tLc (WI X tg iter) T.g tt te (own.map (·.2)) σ H Q from
    ⟨fun B0 S κ G σ H sat W tk Q q => we_of (pe_lc (own := own) c.calm (by rw [c.n]; exact c.nd) pi_self (by rw [c.n, c.sc]; exact ok) T.pg ht he (hfs _)) (core B0 S κ G σ H sat W tk Q q),
      fun i y py spos h1 h2 h3 B0 S κ G σ H sat W tk D q => ws_of (ps_setLc (own := own) c.calm (by rw [c.n]; exact c.nd) h1 h2 h3 pi_self (by rw [c.n, c.sc]; exact ok) T.pg ht he (hfs _)) (core B0 S κ G σ H sat W tk _ q)⟩
  intro B0 S κ G σ H sat W tk Q q
  refine hw B0 S κ G σ H sat W tk _ (bindW q fun items J κ1 G1 H1 S1 e1 r1 h1 => ?_)
  intro D hD
  have sat1 := sat.ext e1.weak
  obtain ⟨Bk, hBk⟩ : ∃ Bk : Bs, Bk = ⟨κ1, G1, H1, S1, κ1, G1⟩ := ⟨_, rfl⟩
  have x0 : ExtS X.K X.mg (Mon.pu m) Bk κ1 G1 H1 S1 := by subst hBk; exact ⟨ExtB.refl e1.e.w, Pre.refl _, Le.refl _⟩
  have hBD : Bk.H D = none := by subst hBk; exact hD
  have satP := sat1.push hD
  obtain ⟨vs0, _, _, gD, kD, _⟩ := satP.head1
  have h2 : Post X.K X.mg (Mon.pu m) (Rep X.K X.mg) κ1 G1 H1 S1 (M.bind (noExn (Mon.run (lcM step items))) (fun ys => lift (vLst ([] ++ ys))) S1) Q (fun c d H' => W c d σ H') := by
    rw [Mon.run_bind, Mon.run_nx] at h1
    have e : (fun ys => Mon.run (m := m) (Mon.of (vLst ys))) = fun ys => lift (vLst ys) := by funext ys; exact Mon.run_of _
    rw [e] at h1
    exact h1
  refine ⟨fun i n H' => i ≤ items.length ∧ n = items.length - i ∧ ∃ acc S' κ' G', Sat X.K X.mg false B0 (.o1 acc :: E) S' κ' G' (some (.ref D) :: σ) H' ∧ ExtS X.K X.mg (Mon.pu m) Bk κ' G' H' S' ∧
      Post X.K X.mg (Mon.pu m) (Rep X.K X.mg) κ1 G1 H1 S1 (M.bind (noExn (Mon.run (lcM step (items.drop i)))) (fun ys => lift (vLst (acc ++ ys))) S') Q (fun c d H' => W c d σ H'),
    ⟨_, Nat.zero_le _, rfl, [], S1, κ1, G1, satP, x0.own hBD gD kD, h2⟩, ?_⟩
  rintro i n H' ⟨hi, hnn, acc, S', κ', G', sa, xs', hp⟩
  have pk : Pre κ1 κ' := by have := xs'.pf; subst hBk; exact this
  have lg : Le G1 G' := by have := xs'.lf; subst hBk; exact this
  by_cases hlt : i < items.length
  · right
    obtain ⟨Nx, hNx⟩ : ∃ Nx : Hp → Prop, Nx = fun H' => ∃ acc S' κ' G', Sat X.K X.mg false B0 (.o1 acc :: E) S' κ' G' (some (.ref D) :: σ) H' ∧ ExtS X.K X.mg (Mon.pu m) Bk κ' G' H' S' ∧
      Post X.K X.mg (Mon.pu m) (Rep X.K X.mg) κ1 G1 H1 S1 (M.bind (noExn (Mon.run (lcM step (items.drop (i + 1))))) (fun ys => lift (vLst (acc ++ ys))) S') Q (fun c d H' => W c d σ H') := ⟨_, rfl⟩
    refine ⟨r1.go i H' (lg.trans sa.w.le) hlt, Nx, fun H2 h2 => ⟨items.length - (i + 1), by omega, by omega, rfl, by rw [hNx] at h2; exact h2⟩, fun x Hy hy => ?_⟩
    have hit : items[i]? = some items[i] := List.getElem?_eq_getElem hlt
    rw [List.drop_eq_getElem_cons hlt] at hp
    have hp2 : Post X.K X.mg (Mon.pu m) (Rep X.K X.mg) κ1 G1 H1 S1 (M.bind (noExn (Mon.run (step items[i]))) (fun o => M.bind (noExn (Mon.run (lcM step (items.drop (i + 1))))) (fun ys => lift (vLst ((acc ++ o.toList) ++ ys)))) S') Q (fun c d H' => W c d σ H') := by
      have e : ∀ (r1 : M (Option Val)) (r2 : M (List Val)), M.bind (noExn (M.bind r1 fun o => M.bind r2 fun ys => Pure.pure (o.toList ++ ys))) (fun ys => lift (vLst (acc ++ ys))) = M.bind (noExn r1) (fun o => M.bind (noExn r2) fun ys => lift (vLst ((acc ++ o.toList) ++ ys))) := by
        intro r1 r2
        rw [noExn_bind, M.bind_assoc]
        congr 1
        funext o
        rw [noExn_bind, M.bind_assoc]
        congr 1
        funext ys
        rw [List.append_assoc]
        rfl
      rw [← e]
      unfold lcM at hp
      rw [Mon.run_bind] at hp
      have e2 : (fun a => Mon.run (m := m) (lcM step (items.drop (i + 1)) >>= fun ys => Pure.pure (a.toList ++ ys))) = fun (a : Option Val) => M.bind (Mon.run (lcM step (items.drop (i + 1)))) fun ys => Pure.pure (a.toList ++ ys) := by
        funext a
        rw [Mon.run_bind]
        show M.bind _ _ = M.bind _ _
        congr 1
        funext ys
        exact Mon.run_pure _
      rw [e2] at hp
      exact hp
    -- one turn, from the state behind the draw
    have turn : ∀ κ2 G2 Hz v, Sat X.K X.mg false B0 (.o1 acc :: E) S' κ2 G2 (some (.ref D) :: σ) Hz → ExtS X.K X.mg (Mon.pu m) Bk κ2 G2 Hz S' → Rep X.K X.mg κ2 G2 items[i] v →
        T.g v (L2.wipe σ (own.map (·.2))) Hz fun σ2 H2 => L2.wipe σ2 (own.map (·.2)) = L2.wipe σ (own.map (·.2)) ∧ tt σ2 H2 fun b H3 => if b = true then te σ2 H3 fun y H4 => ∃ acc, H4 D = some (.lst acc) ∧ acc.length < sizeLine ∧ Nx (L2.upd H4 D (.lst (acc ++ [y]))) else Nx H3 := by
      intro κ2 G2 Hz v sz xz rz
      have s1 := sz.tail.wipe (own.map (·.2))
      cases ef : f items[i] (unset E (own.map (·.2))) with
      | none =>
        obtain ⟨S3, es⟩ := hn _ ef S'
        unfold M.bind noExn at hp2
        rw [es] at hp2
        exact hp2.elim
      | some E' =>
        refine T.set false B0 _ S' κ2 G2 _ Hz _ v E' s1 rz ef _ fun σ2 s2 w2 => ⟨?_, ?_⟩
        · rw [w2]
          have ww : ∀ vs : List Nat, L2.wipe (L2.wipe σ vs) vs = L2.wipe σ vs := by
            intro vs
            apply List.ext_getElem?
            intro j
            by_cases hj : j ∈ vs
            · have k1 : ∀ τ : St, j < τ.length → (L2.wipe τ vs)[j]? = some none := by
                intro τ hl
                cases e : (L2.wipe τ vs)[j]? with
                | none => rw [List.getElem?_eq_none_iff, L2.wipe_length] at e; omega
                | some o => cases o with
                  | none => rfl
                  | some y => exact absurd hj (L2.wipe_some e).2
              by_cases hl : j < σ.length
              · rw [k1 _ (by rw [L2.wipe_length]; exact hl), k1 _ hl]
              · rw [List.getElem?_eq_none (by rw [L2.wipe_length, L2.wipe_length]; omega), List.getElem?_eq_none (by rw [L2.wipe_length]; omega)]
            · rw [L2.wipe_out hj]
          exact ww _
        · have fin := hs _ E' ef B0 S' κ2 G2 σ2 Hz s2 (fun ov H4 => match ov with
            | some y => ∃ acc, H4 D = some (.lst acc) ∧ acc.length < sizeLine ∧ Nx (L2.upd H4 D (.lst (acc ++ [y])))
            | none => Nx H4) ?_
          · exact fin
          · have hp3 := hp2
            unfold M.bind noExn at hp3
            cases er : Mon.run (step items[i]) S' with
            | mk r S3 =>
              rw [er] at hp3
              cases r with
              | stuck => exact hp3.elim
              | exn c fs => exact hp3.elim
              | ok o =>
                intro κ3 G3 H3 ov e3 ro
                have hp4 : Post X.K X.mg (Mon.pu m) (Rep X.K X.mg) κ1 G1 H1 S1 (M.bind (noExn (Mon.run (lcM step (items.drop (i + 1))))) (fun ys => lift (vLst ((acc ++ o.toList) ++ ys))) S3) Q (fun c d H' => W c d σ H') := hp3
                have s4 := sz.ext e3.weak
                have x4 := xz.trans e3
                rcases ro with ⟨eo, ev⟩ | ⟨y, u, eo, ev, ry⟩
                · subst eo ev
                  show Nx H3
                  rw [hNx]
                  rw [show acc ++ Option.toList none = acc from List.append_nil _] at hp4
                  exact ⟨acc, S3, κ3, G3, s4, x4, hp4⟩
                · subst eo ev
                  obtain ⟨ws, hD4, rl4, gD4, kD4, _⟩ := s4.head1
                  have ll := vLst_len hp4
                  have lw := rl4.length
                  refine ⟨ws, hD4, ?_, ?_⟩
                  · rw [lw]
                    have : (acc ++ [y]).length ≤ sizeLine := ll
                    rw [List.length_append, List.length_singleton] at this
                    omega
                  · rw [hNx]
                    obtain ⟨a, vs, z1, z2, z3, z4⟩ := s4.setO1 (i := 0) (xs := acc) (ys := acc ++ [y]) rfl
                    cases z1
                    rw [hD4] at z2
                    cases z2
                    exact ⟨acc ++ [y], S3, κ3, G3, z4 (ws ++ [u]) (rl4.append (.cons ry .nil)), x4.own hBD gD4 kD4, hp4⟩
    rcases r1.yld i H' x Hy (lg.trans sa.w.le) hy items[i] hit with ⟨z1, rx⟩ | ⟨T', vs, ys, hT, z1, z2, z3, ry⟩
    · subst z1
      exact turn κ' G' Hy x sa xs' (rx.mono pk lg)
    · subst z1 z2
      have ex2 : ExtB X.K X.mg (Mon.pu m) κ' G' H' S' κ' (L2.upd G' T' (.tup vs)) (L2.upd H' T' (.tup vs)) S' := ⟨(sa.w.upd hT).e, fun _ => (sa.w.upd hT).p rfl⟩
      refine turn κ' _ _ _ (sa.ext ex2.weak) (xs'.trans ex2) ?_
      rw [z3]
      unfold Rep
      exact ⟨T', vs, rfl, .inl (.inl upd_same), (ry.mono pk lg).mono (Pre.refl _) ex2.e.le⟩
  · have e : i = items.length := by omega
    subst e
    left
    refine ⟨r1.stop H' (lg.trans sa.w.le), ?_⟩
    rw [List.drop_length] at hp
    unfold lcM at hp
    rw [Mon.run_pure] at hp
    have hp2 : Post X.K X.mg (Mon.pu m) (Rep X.K X.mg) κ1 G1 H1 S1 (vLst (acc ++ []), S') Q (fun c d H' => W c d σ H') := hp
    rw [List.append_nil] at hp2
    unfold vLst at hp2
    split at hp2
    · obtain ⟨ws, hD4, rl4, gD4, kD4, _⟩ := sa.head1
      obtain ⟨xf, lf⟩ := xs'.freeze hBD gD4 kD4 hD4
      refine hp2 κ' (L2.upd G' D (.lst ws)) H' (.ref D) ?_ ?_
      · have := xf.x; subst hBk; exact this
      · unfold Rep
        exact ⟨D, ws, rfl, upd_same, rl4.mono (Pre.refl _) lf⟩
    · exact hp2.elim
end
end Tv

namespace Tv
open PySem L2
section
variable {X : Cx} {N : List Str} {sc : Scope} {k : Nat} {E : Env} {m : Type → Type} [Mon m]
theorem takesF {X : Cx} : Takes X (fun _ _ _ _ => False) := fun u s' x => by
  obtain ⟨_, _, _, _, _, _, _, _, _, _, _, _, _, _, _, _, z⟩ := x
  exact z.elim
def TEs (X : Cx) (scope : Scope) (e : Expr) : TE := fun σ H Q => ∀ s Hh C cl fp, WE (bX X scope s Hh C cl fp) e σ H Q
def TTs (X : Cx) (scope : Scope) (e : Expr) : TT := fun σ H Q => ∀ s Hh C cl fp, WT (bX X scope s Hh C cl fp) e σ H Q
abbrev ROpt (K : PySem.W.Frag) (mg : Str → Option Value) : List Addr → Hp → Option Val → Option V → Prop := fun κ G o ov => (o = none ∧ ov = none) ∨ ∃ y v, o = some y ∧ ov = some v ∧ Rep K mg κ G y v
/-- the turn without a test -/
theorem turn0 {scope : Scope} {elt : Expr} {r : m Val} (h : EvB X scope E elt r) (B0 : Bs) (S : Cells) (κ : List Addr) (G : Hp) (σ : St) (H : Hp) (sat : Sat X.K X.mg false B0 E S κ G σ H) (Q : Option V → Hp → Prop)
    (q : Post X.K X.mg (Mon.pu m) (ROpt X.K X.mg) κ G H S (Mon.run (r >>= fun y => Pure.pure (some y)) S) Q (fun _ _ _ => False)) : tYes σ H fun b H3 => if b = true then TEs X scope elt σ H3 (fun u H4 => Q (some u) H4) else Q none H3 := by
  show (if true = true then TEs X scope elt σ H (fun u H4 => Q (some u) H4) else Q none H)
  rw [if_pos rfl]
  intro s Hh C cl fp
  refine h s Hh C cl fp B0 S κ G σ H sat _ takesF _ (bindW q fun x v κ1 G1 H1 S1 e1 r1 h1 => ?_)
  exact Post.pure (m := m) h1 e1.e.w (.inr ⟨x, v, rfl, rfl, r1⟩)
/-- the turn with a test -/
theorem turn1 {scope : Scope} {elt c : Expr} {r : m Val} {rc : m Bool} (hc : EtB X scope E c rc) (h : EvB X scope E elt r) (B0 : Bs) (S : Cells) (κ : List Addr) (G : Hp) (σ : St) (H : Hp) (sat : Sat X.K X.mg false B0 E S κ G σ H) (Q : Option V → Hp → Prop)
    (q : Post X.K X.mg (Mon.pu m) (ROpt X.K X.mg) κ G H S (Mon.run (rc >>= fun b => if b = true then r >>= fun y => Pure.pure (some y) else Pure.pure none) S) Q (fun _ _ _ => False)) : TTs X scope c σ H fun b H3 => if b = true then TEs X scope elt σ H3 (fun u H4 => Q (some u) H4) else Q none H3 := by
  intro s Hh C cl fp
  refine hc s Hh C cl fp B0 S κ G σ H sat _ takesF _ (bindW q fun b b' κ1 G1 H1 S1 e1 r1 h1 => ?_)
  subst r1
  cases b with
  | true =>
    rw [if_pos rfl] at h1 ⊢
    have t := turn0 h B0 S1 κ1 G1 σ H1 (sat.ext e1.weak) Q h1
    exact t
  | false =>
    rw [if_neg Bool.false_ne_true] at h1 ⊢
    exact Post.pure (m := m) h1 e1.e.w (.inl ⟨rfl, rfl⟩)
theorem peS {scope : Scope} {e : Expr} : ∀ s H C cl fp, PE (bX X scope s H C cl fp) e (TEs X scope e) := fun s H C cl fp => ⟨fun pins st σ Hh Q I h => (h s H C cl fp).run pins st I⟩
theorem ptS {scope : Scope} {e : Expr} : ∀ s H C cl fp, PTs (bX X scope s H C cl fp) [e] (TTs X scope e) := fun s H C cl fp => pts_one ⟨fun pins st σ Hh Q I h => (h s H C cl fp).run pins st I⟩
/-- the own slots of a comprehension are places of the frame -/
theorem unset_length {E : Env} : ∀ vs : List Nat, (unset E vs).length = E.length
  | [] => rfl
  | v :: vs => by unfold unset; rw [List.length_set, unset_length vs]
def on1 {α : Type} (x : Val) (f : Val → m α) : m α := f x

/-- [elt for x in iter] -/
theorem ev_lc (c : Ctx X N sc k) {scope : Scope} {own : List (Str × Nat)} {elt iter : Expr} {pos px : Pos} {x : Str} {i : Nat} {ri : m (List Val)} {r : Val → m Val} (hb : blkC N sc scope own = true) (hl : Lb N sc scope i x) (hv : i ∈ own.map (·.2)) (hi : i < E.length) (hw : Wi X E (.Name x px) iter ri)
    (he : ∀ v, EvB X scope ((unset E (own.map (·.2))).set i (.fz v)) elt (r v)) (hfs : ∀ env x, foldedSetIterable iter env x = pure x := by intros; rfl) :
    EvLc X E (.ListComp elt [⟨.Name x px, iter, [], 0⟩] scope pos) (ri >>= fun xs => Mon.nx (mapM' r xs) >>= fun ys => Mon.of (vLst ys)) := by
  have core := lc_go (pos := pos) (step := fun v => r v >>= fun y => Pure.pure (some y)) c (tgName c i (pos := px) hl hv) (blkOk_by hb) hw (fun _ _ _ _ _ => pts_nil) (peS (e := elt)) (fun v E' e B0 S κ G σ H sat Q q => ?_) (fun v e => ?_) hfs
  · refine core.cast ?_
    have e : Mon.run (m := m) (ri >>= fun xs => Mon.nx (mapM' r xs) >>= fun ys => Mon.of (vLst ys)) = Mon.run (ri >>= fun xs => Mon.nx (lcM (fun v => r v >>= fun y => Pure.pure (some y)) xs) >>= fun ys => Mon.of (vLst ys)) := by
      rw [Mon.run_bind, Mon.run_bind]
      show M.bind _ _ = M.bind _ _
      congr 1
      funext xs
      rw [Mon.run_bind, Mon.run_bind, Mon.run_nx, Mon.run_nx, run_mapM']
    exact e
  · unfold fName at e
    rw [if_pos (by rw [unset_length]; exact hi)] at e
    cases e
    exact turn0 (he v) B0 S κ G σ H sat Q q
  · unfold fName at e
    rw [if_pos (by rw [unset_length]; exact hi)] at e
    cases e
/-- [elt for x in iter if c] -/
theorem ev_lcif (c : Ctx X N sc k) {scope : Scope} {own : List (Str × Nat)} {elt iter cond : Expr} {pos px : Pos} {x : Str} {i : Nat} {ri : m (List Val)} {r : Val → m Val} {rc : Val → m Bool} (hb : blkC N sc scope own = true) (hl : Lb N sc scope i x) (hv : i ∈ own.map (·.2)) (hi : i < E.length) (hw : Wi X E (.Name x px) iter ri)
    (hc : ∀ v, EtB X scope ((unset E (own.map (·.2))).set i (.fz v)) cond (rc v)) (he : ∀ v, EvB X scope ((unset E (own.map (·.2))).set i (.fz v)) elt (r v)) (hfs : ∀ env x, foldedSetIterable iter env x = pure x := by intros; rfl) :
    EvLc X E (.ListComp elt [⟨.Name x px, iter, [cond], 0⟩] scope pos) (ri >>= fun xs => Mon.nx (lcM (fun v => rc v >>= fun b => if b = true then r v >>= fun y => Pure.pure (some y) else Pure.pure none) xs) >>= fun ys => Mon.of (vLst ys)) := by
  refine lc_go c (tgName c i (pos := px) hl hv) (blkOk_by hb) hw (ptS (e := cond)) (peS (e := elt)) (fun v E' e B0 S κ G σ H sat Q q => ?_) (fun v e => ?_) hfs
  · unfold fName at e
    rw [if_pos (by rw [unset_length]; exact hi)] at e
    cases e
    exact turn1 (hc v) (he v) B0 S κ G σ H sat Q q
  · unfold fName at e
    rw [if_pos (by rw [unset_length]; exact hi)] at e
    cases e
/-- [elt for x, y in iter] -/
theorem ev_lc2 (c : Ctx X N sc k) {scope : Scope} {own : List (Str × Nat)} {elt iter : Expr} {pos px py pt : Pos} {kk} {x y : Str} {i j : Nat} {ri : m (List Val)} {r : Val → Val → m Val} (hb : blkC N sc scope own = true) (hl : Lb N sc scope i x) (hl2 : Lb N sc scope j y) (hv : i ∈ own.map (·.2)) (hv2 : j ∈ own.map (·.2)) (hi : i < E.length) (hj : j < E.length)
    (hw : Wi X E (.Tuple [.Name x px, .Name y py] kk pt) iter ri) (he : ∀ a b, EvB X scope (((unset E (own.map (·.2))).set i (.fz a)).set j (.fz b)) elt (r a b)) (hfs : ∀ env x, foldedSetIterable iter env x = pure x := by intros; rfl) :
    EvLc X E (.ListComp elt [⟨.Tuple [.Name x px, .Name y py] kk pt, iter, [], 0⟩] scope pos) (ri >>= fun xs => Mon.nx (mapM' (fun v => on2 v r) xs) >>= fun ys => Mon.of (vLst ys)) := by
  have core := lc_go (pos := pos) (step := fun v => on2 v r >>= fun y => Pure.pure (some y)) c (tgTup2 c i j (p1 := px) (p2 := py) (pos := pt) (kk := kk) hl hl2 hv hv2) (blkOk_by hb) hw (fun _ _ _ _ _ => pts_nil) (peS (e := elt)) (fun v E' e B0 S κ G σ H sat Q q => ?_) (fun v e => ?_) hfs
  · refine core.cast ?_
    have e : Mon.run (m := m) (ri >>= fun xs => Mon.nx (mapM' (fun v => on2 v r) xs) >>= fun ys => Mon.of (vLst ys)) = Mon.run (ri >>= fun xs => Mon.nx (lcM (fun v => on2 v r >>= fun y => Pure.pure (some y)) xs) >>= fun ys => Mon.of (vLst ys)) := by
      rw [Mon.run_bind, Mon.run_bind]
      show M.bind _ _ = M.bind _ _
      congr 1
      funext xs
      rw [Mon.run_bind, Mon.run_bind, Mon.run_nx, Mon.run_nx, run_mapM']
    exact e
  · unfold fTup2 at e
    split at e
    · rw [if_pos ⟨by rw [unset_length]; exact hi, by rw [unset_length]; exact hj⟩] at e
      cases e
      exact turn0 (he _ _) B0 S κ G σ H sat Q q
    · cases e
  · intro S
    have st : on2 v r = Mon.of .stuck := by
      unfold on2
      unfold fTup2 at e
      split
      · have e : (if i < (unset E (own.map (·.2))).length ∧ j < (unset E (own.map (·.2))).length then some _ else none) = none := e
        rw [if_pos ⟨by rw [unset_length]; exact hi, by rw [unset_length]; exact hj⟩] at e
        cases e
      · rfl
    rw [st, Mon.run_bind, Mon.run_of]
    exact ⟨S, rfl⟩
/-- [elt for x, y in iter if c] -/
theorem ev_lc2if (c : Ctx X N sc k) {scope : Scope} {own : List (Str × Nat)} {elt iter cond : Expr} {pos px py pt : Pos} {kk} {x y : Str} {i j : Nat} {ri : m (List Val)} {r : Val → Val → m Val} {rc : Val → Val → m Bool} (hb : blkC N sc scope own = true) (hl : Lb N sc scope i x) (hl2 : Lb N sc scope j y) (hv : i ∈ own.map (·.2)) (hv2 : j ∈ own.map (·.2)) (hi : i < E.length) (hj : j < E.length)
    (hw : Wi X E (.Tuple [.Name x px, .Name y py] kk pt) iter ri) (hc : ∀ a b, EtB X scope (((unset E (own.map (·.2))).set i (.fz a)).set j (.fz b)) cond (rc a b)) (he : ∀ a b, EvB X scope (((unset E (own.map (·.2))).set i (.fz a)).set j (.fz b)) elt (r a b)) (hfs : ∀ env x, foldedSetIterable iter env x = pure x := by intros; rfl) :
    EvLc X E (.ListComp elt [⟨.Tuple [.Name x px, .Name y py] kk pt, iter, [cond], 0⟩] scope pos) (ri >>= fun xs => Mon.nx (lcM (fun v => on2 v fun a b => rc a b >>= fun t => if t = true then r a b >>= fun y => Pure.pure (some y) else Pure.pure none) xs) >>= fun ys => Mon.of (vLst ys)) := by
  refine lc_go c (tgTup2 c i j (p1 := px) (p2 := py) (pos := pt) (kk := kk) hl hl2 hv hv2) (blkOk_by hb) hw (ptS (e := cond)) (peS (e := elt)) (fun v E' e B0 S κ G σ H sat Q q => ?_) (fun v e => ?_) hfs
  · unfold fTup2 at e
    split at e
    · rw [if_pos ⟨by rw [unset_length]; exact hi, by rw [unset_length]; exact hj⟩] at e
      cases e
      exact turn1 (hc _ _) (he _ _) B0 S κ G σ H sat Q q
    · cases e
  · intro S
    unfold on2
    unfold fTup2 at e
    split
    · have e : (if i < (unset E (own.map (·.2))).length ∧ j < (unset E (own.map (·.2))).length then some _ else none) = none := e
      rw [if_pos ⟨by rw [unset_length]; exact hi, by rw [unset_length]; exact hj⟩] at e
      cases e
    · rw [Mon.run_of]
      exact ⟨S, rfl⟩
end
end Tv

/-! what loops and comprehensions walk -/
namespace Tv
open PySem PySem.Spec PyProof.Rows L2

/-- a list (false) or a tuple (true) -/
def Sq (K : PySem.W.Frag) (H : Hp) : Bool → Addr → List V → Prop
  | false, a, xs => SqL K H a xs
  | true, a, xs => SqT K H a xs
def sqIt (h : Heap) (it a : Addr) (i : Nat) : Bool → Prop
  | false => h.IsListIter it a i
  | true => h.IsTupleIter it a i
def sqAt (h : Heap) (a : Addr) (items : Array Value) : Bool → Prop
  | false => h.IsList a items
  | true => h.IsTuple a items
def sqObj (a : Addr) : Bool → Obj
  | false => { cls := .type "list_iterator", data := .fields #[.ref a, .int 0 0] }
  | true => { cls := .type "tuple_iterator", data := .fields #[.ref a, .int 0 0] }
theorem sqIt_new {h : Heap} {it a : Addr} {b : Bool} (e : h.get? it = some (sqObj a b)) : sqIt h it a 0 b := by
  cases b <;> exact ⟨_, e, rfl, rfl⟩
theorem sqIt_obj {h : Heap} {it a : Addr} {i : Nat} {b : Bool} (x : sqIt h it a i b) : ∃ o, h.get? it = some o ∧ ∀ v, o.data ≠ .cell v := by
  cases b <;> (obtain ⟨o, e, _, d⟩ := x; exact ⟨o, e, fun v z => by rw [d] at z; cases z⟩)
theorem sqIt_at {h h' : Heap} {it a : Addr} {i : Nat} {b : Bool} (x : sqIt h it a i b) (k : ∀ o, h.get? it = some o → h'.get? it = some o) : sqIt h' it a i b := by
  cases b <;> (obtain ⟨o, e, r⟩ := x; exact ⟨o, k o e, r⟩)
theorem sqBegins (a : Addr) (items : Array Value) (b : Bool) : Begins (.ref a) (sqObj a b) (fun h => sqAt h a items b) := by
  cases b
  · exact begins_list a items
  · exact begins_tuple a items
theorem sqDraws {prog : Program} {w : World} {A : Around} (hh : A.handled = none) (it a : Addr) (hne : a ≠ it) (items : Array Value) (b : Bool) :
    Draws prog w A it [it, a] items.size (fun i v => items[i]? = some v) (fun i h => sqIt h it a i b ∧ sqAt h a items b) := by
  cases b
  · exact Draws.list hh it a hne items
  · exact Draws.tuple hh it a hne items
section
variable {X : Cx} {pins : List (Addr × Obj)} {σ : L2.St} {H : Hp} {s : Shared}
theorem sq_inv (I : L2.Inv X pins σ H s) {b : Bool} {a : Addr} {xs : List V} (h : Sq X.K H b a xs) : ∃ its : List Value, Vals xs its ∧ sqAt s.heap a its.toArray b ∧ xs.length ≤ sizeLine := by
  cases b
  · obtain ⟨its, r, p, z⟩ := I.list h
    exact ⟨its, r, p.isList, z⟩
  · obtain ⟨its, r, p, z⟩ := I.tuple h
    exact ⟨its, r, p, z⟩
theorem sq_inj (I : L2.Inv X pins σ H s) {b : Bool} {a : Addr} {xs ys : List V} (h : Sq X.K H b a xs) (h' : Sq X.K H b a ys) : xs = ys := by
  cases b
  · exact I.list_inj h h'
  · exact I.tuple_inj h h'
theorem sq_lt {h : Heap} {a : Addr} {items : Array Value} {b : Bool} (x : sqAt h a items b) : a < h.objs.size := by
  cases b <;> (obtain ⟨o, e, _⟩ := x; exact Heap.lt_size e)
end
/-- the source is neither of the cells -/
theorem sq_apart {h : Heap} {a b : Addr} {items : Array Value} {k : Bool} {o : Obj} (x : sqAt h a items k) (e : h.get? b = some o) (hc : o.cls ≠ .type "list" ∧ o.cls ≠ .type "tuple") : a ≠ b := fun z => by
  subst z
  cases k
  · obtain ⟨o', e', c, _⟩ := x
    rw [e] at e'; cases e'; exact hc.1 c
  · obtain ⟨o', e', c, _⟩ := x
    rw [e] at e'; cases e'; exact hc.2 c
theorem cls_ne {n : String} (h1 : (n == "list") = false) (h2 : (n == "tuple") = false) : Value.type n ≠ .type "list" ∧ Value.type n ≠ .type "tuple" := by
  constructor <;> (intro h; injection h with h; subst h; simp at h1 h2)
theorem sqIt_cls {h : Heap} {it a : Addr} {i : Nat} {k : Bool} (x : sqIt h it a i k) : ∃ o, h.get? it = some o ∧ (o.cls ≠ .type "list" ∧ o.cls ≠ .type "tuple") ∧ o.cls ≠ .type "enumerate" ∧ o.cls ≠ .type "zip" := by
  cases k <;> (obtain ⟨o, e, c, _⟩ := x; exact ⟨o, e, by rw [c]; decide, by rw [c]; decide, by rw [c]; decide⟩)
/-! ### enumerate -/
def IteS (K : PySem.W.Frag) (b : Bool) (a : Addr) : It :=
  ⟨fun i H => ∃ (xs : List V) (x : V), Sq K H b a xs ∧ xs[i]? = some x, fun i H v H' => ∃ T x, v = .ref T ∧ H T = none ∧ H' = L2.upd H T (.tup [.int (i : Nat), x]) ∧ ∀ xs, Sq K H b a xs → xs[i]? = some x, fun i H => ∃ xs : List V, Sq K H b a xs ∧ xs.length = i⟩
theorem turn_enumS {P : Program} {w : World} {K : PySem.W.Frag} {elts : List Expr} {kk : Nat} {tpos : Pos} (b : Bool) (a e it : Addr) :
    Turn P w K (.Tuple elts kk tpos) (IteS K b a) [e, it] e (fun i h => (∃ old, IsEnum h e it ((i : Nat) : Int) old) ∧ sqIt h it a i b ∧ e ≠ it) where
  mem := by simp
  obj := fun i h st c hc => by
    obtain ⟨⟨old, he⟩, hi, _⟩ := st
    rcases (by simpa using hc : c = e ∨ c = it) with z | z
    · rw [z]; exact ⟨_, he, fun v q => nomatch q⟩
    · rw [z]; exact sqIt_obj hi
  keep := fun i h h' st k => by
    obtain ⟨⟨old, he⟩, hi, hne⟩ := st
    exact ⟨⟨old, k e (by simp) _ he⟩, sqIt_at hi fun o q => k it (by simp) o q, hne⟩
  item := by
    intro X hP hw hK hc i pins s σ H E I hf st hg
    subst hP hw hK
    obtain ⟨⟨old, he⟩, hit, hne⟩ := st
    obtain ⟨xs, x, hq, hx⟩ := hg
    obtain ⟨its, rv, p, hz⟩ := sq_inv I hq
    obtain ⟨u, hu, ru⟩ := rv.get hx
    obtain ⟨oi, hoi, ci, _⟩ := sqIt_cls hit
    have hel : e < s.heap.objs.size := Heap.lt_size he
    have hil : it < s.heap.objs.size := Heap.lt_size hoi
    have ae : a ≠ e := sq_apart p he (cls_ne (n := "enumerate") rfl rfl)
    have ai : a ≠ it := sq_apart p hoi ci
    have hlt : i < its.toArray.size := by
      rw [List.size_toArray]; exact (List.getElem?_eq_some_iff.mp hu).1
    refine wpAny_pyNext_enum_itemC (sqDraws (prog := X.prog) (w := X.w) (A := X.A.in1) (I.ok.hd hc) it a ai its.toArray b) he ⟨hit, p⟩ hlt hne (by simp [hne, Ne.symm ae]) fun y h' tk hy ho hit' hT hsz hk => ?_
    have ey : y = u := by
      have : its.toArray[i]? = some u := by simpa using hu
      rw [this] at hy
      exact (Option.some.inj hy).symm
    subst ey
    refine ⟨_, rfl, wpAny_letOwnedTupleGo_enum (s := { s with heap := h', toks := tk + 1 }) ho fun h'' he' sb => ?_⟩
    have hT2 : h''.get? s.heap.objs.size = some { cls := .type "tuple", data := .seq #[.int i tk, y] } := (sb.2 _ (Nat.ne_of_gt hel)).trans hT
    have new : ObjOk X.prog X.w (L2.upd H s.heap.objs.size (.tup [.int (i : Nat), x])) h'' s.heap.objs.size (.tup [.int (i : Nat), x]) :=
      ⟨by show 2 ≤ sizeLine; decide, [.int i tk, y], .cons ⟨_, rfl⟩ (.cons ru .nil), ⟨_, hT2, rfl, _, rfl⟩⟩
    have I1 : L2.Inv X pins σ (L2.upd H s.heap.objs.size (.tup [.int (i : Nat), x])) { s with heap := h'', toks := tk + 1 } :=
      I.turnedNew (ch := [e, it]) (fun b ob hb q => (sb.2 b (fun z => hb (by simp [z]))).trans (hk b ob (fun z => hb (by simp [z])) (fun z => hb (by simp [z])) q)) hf (Nat.le_refl _) new
    refine ⟨.ref s.heap.objs.size, _, I1, rfl, ⟨_, x, rfl, I.hok.fresh (Nat.le_refl _), rfl, fun ys hy => by rw [sq_inj I hy hq]; exact hx⟩, ⟨⟨y, ?_⟩, sqIt_at hit'.1 fun o q => (sb.2 it (Ne.symm hne)).trans q, hne⟩, fun b hb => ?_⟩
    · have e1 : ((i + 1 : Nat) : Int) = (i : Int) + 1 := by omega
      rw [e1]; exact he'
    · have hb' : b < s.heap.objs.size := by
        rcases (by simpa using hb : b = e ∨ b = it) with z | z
        · rw [z]; exact hel
        · rw [z]; exact hil
      rw [upd_ne (Nat.ne_of_lt hb')]
      exact (hf b hb).1
  done := by
    intro X hP hw hK hc i pins s σ H E I hf st hg
    subst hP hw hK
    obtain ⟨⟨old, he⟩, hit, hne⟩ := st
    obtain ⟨xs, hq, hx⟩ := hg
    obtain ⟨its, rv, p, hz⟩ := sq_inv I hq
    obtain ⟨oi, hoi, ci, _⟩ := sqIt_cls hit
    have hn : its.toArray.size = i := by rw [List.size_toArray, ← rv.length]; exact hx
    obtain ⟨f0, f1, f2, f3, f4, f5⟩ := hf it (by simp)
    exact wpAny_pyNext_enum_endD (sqDraws (prog := X.prog) (w := X.w) (A := X.A.in1) (I.ok.hd hc) it a (sq_apart p hoi ci) its.toArray b) he (by rw [hn]; exact ⟨hit, p⟩) fun h' eb => ⟨rfl, I.turned (t' := s.toks) (fun b o hb q => eb b o hb q) f0 f1 f3 f4 f5⟩
  self := fun A i s Q E st h => by
    obtain ⟨⟨_, he⟩, _⟩ := st
    exact wpAny_pyIter_enum he h
theorem meets_enumerate_new1 {v : Value} {o : Obj} {H : Heap → Prop} (B : Begins v o H) :
    Meets (Builtin.«enumerate.__new__» ⟨[.type "enumerate", v], []⟩) (fun _ R s => H s.heap ∧
      R (.ok (.ret (.ref (s.heap.push o).objs.size))) { s with heap := (s.heap.push o).push { cls := .type "enumerate", data := .fields #[.none, .bool false, .ref s.heap.objs.size, rawInt 0, .none, .none] } }) :=
  .of_wp fun prog w A R s h => by
    obtain ⟨hp, g, d, tk, os⟩ := s; obtain ⟨h1, h⟩ := h
    have hsub := sub_enumerate
    have q1 : ∀ {A' : Around} {E : Value → Shared → Prop} {Q : Value → Shared → Prop}, Q (.ref hp.objs.size) ⟨hp.push o, g, d, tk, os⟩ → wpAny (model prog w) A' (pyIter v) Q E ⟨hp, g, d, tk, os⟩ :=
      fun q => B.iter prog w _ _ ⟨hp, g, d, tk, os⟩ _ h1 q
    wp_walk using q1
    refine wpAny_stack_any fun st => wpAny_pure ?_
    split
    · rename_i c _ _ _ _ _
      cases (c == Value.type "enumerate")
      · wp_walk using q1
        exact ⟨_, rfl, h⟩
      · wp_walk using q1
        exact ⟨_, rfl, h⟩
    · wp_walk using q1
      exact ⟨_, rfl, h⟩
section
variable {prog : Program} {w : World} {A : Around} {E : Value → Shared → Prop} {s : Shared}
theorem enum_begins1 {v : Value} {o : Obj} {H : Heap → Prop} {Q : Value → Shared → Prop} (B : Begins v o H) (h1 : H s.heap)
    (h : ∀ h', IsEnum h' (s.heap.objs.size + 1) s.heap.objs.size 0 .none → h'.get? s.heap.objs.size = some o → h'.objs.size = s.heap.objs.size + 2 →
      (∀ b o, s.heap.get? b = some o → h'.get? b = some o) → Q (.ref (s.heap.objs.size + 1)) { s with heap := h' }) :
    wpAny (model prog w) A (call (.type "enumerate") [v]) Q E s := by
  refine callType_new F.called_enumerate (by decide) (F.typeCall_enumerate_1 _) (F.newCall_enumerate_1 _) (fun obj => F.args_object_init_2 obj _) F.entry_enumerate_new
    (meets_enumerate_new1 B) ⟨h1, ?_⟩
  have hz : (s.heap.push o).objs.size = s.heap.objs.size + 1 := Heap.size_push ..
  show _ ∧ _
  rw [hz]
  have he : IsEnum ((s.heap.push o).push { cls := .type "enumerate", data := .fields #[.none, .bool false, .ref s.heap.objs.size, rawInt 0, .none, .none] }) (s.heap.objs.size + 1) s.heap.objs.size 0 .none := by
    have := Heap.get?_push_size (s.heap.push o) (o := { cls := .type "enumerate", data := .fields #[.none, .bool false, .ref s.heap.objs.size, rawInt 0, .none, .none] }) rfl
    rw [hz] at this; exact this
  refine ⟨⟨_, he, rfl⟩, h _ he (Heap.get?_push_of_some _ (Heap.get?_push_size _ B.free)) (by rw [Heap.size_push, hz]) fun b o x => Heap.get?_push_of_some _ (Heap.get?_push_of_some _ x)⟩
end
def iEnumS (K : PySem.W.Frag) (ta : TA) : TI := fun σ H R => ta σ H fun vs H1 => ∃ a b xs, vs = [.ref a] ∧ Sq K H1 b a xs ∧ R (IteS K b a) H1
theorem pi_enumS {X : Cx} {e : Expr} {ta : TA} {p pos tpos : Pos} {elts : List Expr} {kk : Nat} (hg : Gl X "enumerate") (hm : X.mg "enumerate" = none) (ha : PA X [e] ta) (hs : starEach [e] X.env = [(false, eval e X.env)]) :
    PI X (.Tuple elts kk tpos) (.Call (.Name "enumerate" p) [e] [] pos) (iEnumS X.K ta) := by
  refine ⟨fun pins s σ H R I h => ?_⟩
  refine Call_ (ld_blt I hg hm boot_enumerate (PyProof.Rows.callWith_type1 (thn (ha.run pos pins s σ H _ I h) fun us s1 ⟨vs, H1, I1, r1, q1⟩ => ?_) hs rfl))
  obtain ⟨a, b, xs, ex, hq, q⟩ := q1
  subst ex
  cases r1 with
  | cons r rr =>
    cases rr
    cases r
    obtain ⟨its, rv, p', hz⟩ := sq_inv I1 hq
    refine enum_begins1 (sqBegins a its.toArray b) p' fun h' he hit hsz hk => wpAny_pyIter_enum he ?_
    have I2 : L2.Inv X pins σ H1 { s1 with heap := h' } := I1.kept (t' := s1.toks) hk
    refine ⟨s1.heap.objs.size + 1, [s1.heap.objs.size + 1, s1.heap.objs.size], _, _, H1, rfl, I2, turn_enumS b a (s1.heap.objs.size + 1) s1.heap.objs.size, ⟨⟨.none, he⟩, sqIt_new hit, Nat.succ_ne_self _⟩, fun b hb => ?_, q⟩
    have hle : s1.heap.objs.size ≤ b := by
      rcases (by simpa using hb : b = s1.heap.objs.size + 1 ∨ b = s1.heap.objs.size) with z | z
      · rw [z]; exact Nat.le_add_right _ _
      · rw [z]; exact Nat.le_refl _
    exact I1.fpOk hle (I1.hok.fresh hle)
/-! ### zip -/
def ItzS (K : PySem.W.Frag) (b1 b2 : Bool) (a1 a2 : Addr) : It :=
  ⟨fun i H => ∃ (xs ys : List V) (x y : V), Sq K H b1 a1 xs ∧ Sq K H b2 a2 ys ∧ xs[i]? = some x ∧ ys[i]? = some y,
    fun i H v H' => ∃ T x y, v = .ref T ∧ H T = none ∧ H' = L2.upd H T (.tup [x, y]) ∧ (∀ xs, Sq K H b1 a1 xs → xs[i]? = some x) ∧ ∀ ys, Sq K H b2 a2 ys → ys[i]? = some y,
    fun i H => ∃ xs ys : List V, Sq K H b1 a1 xs ∧ Sq K H b2 a2 ys ∧ i = min xs.length ys.length⟩
theorem turn_zipS {P : Program} {w : World} {K : PySem.W.Frag} {elts : List Expr} {kk : Nat} {tpos : Pos} {b1 b2 : Bool} {a b z TI TO i1 i2 : Addr} (D1 : TI ≠ z) (D2 : TO ≠ z) (D3 : TI ≠ TO) (D4 : TI ≠ i1) (D5 : TI ≠ i2) (D6 : TO ≠ i1) (D7 : TO ≠ i2) (D8 : i1 ≠ i2) (D9 : z ≠ i1) (D10 : z ≠ i2) (D11 : a ≠ TO) (D12 : b ≠ TO) :
    Turn P w K (.Tuple elts kk tpos) (ItzS K b1 b2 a b) [z, TI, TO, i1, i2] z (fun i h => IsZip h z TI TO .none ∧ IsTupOf2 h TI (.ref i1) (.ref i2) ∧ (∃ x y, IsTupOf2 h TO x y) ∧ sqIt h i1 a i b1 ∧ sqIt h i2 b i b2) where
  mem := by simp
  obj := fun i h st c hc => by
    obtain ⟨hz, hTI, ⟨x, y, hTO⟩, s1, s2⟩ := st
    rcases (by simpa using hc : c = z ∨ c = TI ∨ c = TO ∨ c = i1 ∨ c = i2) with q | q | q | q | q
    · rw [q]; exact ⟨_, hz, fun v q => nomatch q⟩
    · rw [q]; exact ⟨_, hTI, fun v q => nomatch q⟩
    · rw [q]; exact ⟨_, hTO, fun v q => nomatch q⟩
    · rw [q]; exact sqIt_obj s1
    · rw [q]; exact sqIt_obj s2
  keep := fun i h h' st k => by
    obtain ⟨hz, hTI, ⟨x, y, hTO⟩, h1, h2⟩ := st
    exact ⟨k z (by simp) _ hz, k TI (by simp) _ hTI, ⟨x, y, k TO (by simp) _ hTO⟩, sqIt_at h1 fun o q => k i1 (by simp) o q, sqIt_at h2 fun o q => k i2 (by simp) o q⟩
  item := by
    intro X hP hw hK hc i pins s σ H E I hf st hg
    subst hP hw hK
    obtain ⟨hz, hTI, ⟨x0, y0, hTO⟩, h1, h2⟩ := st
    obtain ⟨xs, ys, x, y, hqx, hqy, hx, hy⟩ := hg
    obtain ⟨its, rv, p, _⟩ := sq_inv I hqx
    obtain ⟨its2, rv2, p2, _⟩ := sq_inv I hqy
    obtain ⟨u, hu, ru⟩ := rv.get hx
    obtain ⟨u2, hu2, ru2⟩ := rv2.get hy
    obtain ⟨oi, hoi, ci, _⟩ := sqIt_cls h1
    obtain ⟨oj, hoj, cj, _⟩ := sqIt_cls h2
    have az : a ≠ z := sq_apart p hz (cls_ne (n := "zip") rfl rfl)
    have bz : b ≠ z := sq_apart p2 hz (cls_ne (n := "zip") rfl rfl)
    have a1 : a ≠ i1 := sq_apart p hoi ci
    have a2 : a ≠ i2 := sq_apart p hoj cj
    have c1 : b ≠ i1 := sq_apart p2 hoi ci
    have c2 : b ≠ i2 := sq_apart p2 hoj cj
    have Sp : ZipSep2 z TI TO i1 i2 [i1, a] [i2, b] := ⟨D1, D2, D3, D4, by simp, by simp [D9, Ne.symm az], by simp [D6, Ne.symm D11], D5, by simp, by simp [D10, Ne.symm bz], by simp [D7, Ne.symm D12], by simp [D8, Ne.symm c1], by simp [Ne.symm D8, Ne.symm a2]⟩
    have hzl : z < s.heap.objs.size := Heap.lt_size hz
    have hlt : i < its.toArray.size := by rw [List.size_toArray]; exact (List.getElem?_eq_some_iff.mp hu).1
    have hlt2 : i < its2.toArray.size := by rw [List.size_toArray]; exact (List.getElem?_eq_some_iff.mp hu2).1
    refine wpAny_pyNext_zipD2_item Sp (sqDraws (prog := X.prog) (w := X.w) (A := X.A.in1) (I.ok.hd hc) i1 a a1 its.toArray b1) (sqDraws (prog := X.prog) (w := X.w) (A := X.A.in1) (I.ok.hd hc) i2 b c2 its2.toArray b2) hz hTI hTO ⟨h1, p⟩ ⟨h2, p2⟩ hlt hlt2 fun v1 v2 h' tk e1 e2 z' TO' h1' h2' hT hsz hk => ?_
    have ey : v1 = u := by
      have : its.toArray[i]? = some u := by simpa using hu
      rw [this] at e1
      exact (Option.some.inj e1).symm
    have ey2 : v2 = u2 := by
      have : its2.toArray[i]? = some u2 := by simpa using hu2
      rw [this] at e2
      exact (Option.some.inj e2).symm
    subst ey ey2
    refine ⟨_, rfl, wpAny_letOwnedTupleGo_zip (s := { s with heap := h', toks := tk }) z' fun h'' z'' sb => ?_⟩
    have hT2 : h''.get? s.heap.objs.size = some { cls := .type "tuple", data := .seq #[v1, v2] } := (sb.2 _ (Nat.ne_of_gt hzl)).trans hT
    have new : ObjOk X.prog X.w (L2.upd H s.heap.objs.size (.tup [x, y])) h'' s.heap.objs.size (.tup [x, y]) :=
      ⟨by show 2 ≤ sizeLine; decide, [v1, v2], .cons ru (.cons ru2 .nil), ⟨_, hT2, rfl, _, rfl⟩⟩
    have I1 : L2.Inv X pins σ (L2.upd H s.heap.objs.size (.tup [x, y])) { s with heap := h'', toks := tk } :=
      I.turnedNew (ch := [z, TI, TO, i1, i2]) (fun c o hb q => (sb.2 c (fun q' => hb (by simp [q']))).trans (hk c o (fun q' => hb (by simp [q'])) (fun q' => hb (by simp [q'])) (fun q' => hb (by simp [q'])) (fun q' => hb (by simp [q'])) q)) hf (Nat.le_refl _) new
    refine ⟨.ref s.heap.objs.size, _, I1, rfl, ⟨_, x, y, rfl, I.hok.fresh (Nat.le_refl _), rfl, fun l hl => by rw [sq_inj I hl hqx]; exact hx, fun l hl => by rw [sq_inj I hl hqy]; exact hy⟩, ⟨z'', ?_, ⟨v1, v2, ?_⟩, ?_, ?_⟩, fun c hcm => ?_⟩
    · exact (sb.2 _ D1).trans (hk _ _ D1 D3 D4 D5 hTI)
    · exact (sb.2 _ D2).trans TO'
    · exact sqIt_at h1'.1 fun o q => (sb.2 _ (Ne.symm D9)).trans q
    · exact sqIt_at h2'.1 fun o q => (sb.2 _ (Ne.symm D10)).trans q
    · have hlt : c < s.heap.objs.size := by
        rcases (by simpa using hcm : c = z ∨ c = TI ∨ c = TO ∨ c = i1 ∨ c = i2) with q | q | q | q | q
        · rw [q]; exact hzl
        · rw [q]; exact Heap.lt_size hTI
        · rw [q]; exact Heap.lt_size hTO
        · rw [q]; exact Heap.lt_size hoi
        · rw [q]; exact Heap.lt_size hoj
      rw [upd_ne (Nat.ne_of_lt hlt)]
      exact (hf c hcm).1
  done := by
    intro X hP hw hK hc i pins s σ H E I hf st hg
    subst hP hw hK
    obtain ⟨hz, hTI, ⟨x0, y0, hTO⟩, h1, h2⟩ := st
    obtain ⟨xs, ys, hqx, hqy, hend⟩ := hg
    obtain ⟨its, rv, p, _⟩ := sq_inv I hqx
    obtain ⟨its2, rv2, p2, _⟩ := sq_inv I hqy
    obtain ⟨oi, hoi, ci, _⟩ := sqIt_cls h1
    obtain ⟨oj, hoj, cj, _⟩ := sqIt_cls h2
    have az : a ≠ z := sq_apart p hz (cls_ne (n := "zip") rfl rfl)
    have bz : b ≠ z := sq_apart p2 hz (cls_ne (n := "zip") rfl rfl)
    have a1 : a ≠ i1 := sq_apart p hoi ci
    have a2 : a ≠ i2 := sq_apart p hoj cj
    have c1 : b ≠ i1 := sq_apart p2 hoi ci
    have c2 : b ≠ i2 := sq_apart p2 hoj cj
    have Sp : ZipSep2 z TI TO i1 i2 [i1, a] [i2, b] := ⟨D1, D2, D3, D4, by simp, by simp [D9, Ne.symm az], by simp [D6, Ne.symm D11], D5, by simp, by simp [D10, Ne.symm bz], by simp [D7, Ne.symm D12], by simp [D8, Ne.symm c1], by simp [Ne.symm D8, Ne.symm a2]⟩
    have l1 := rv.length
    have l2 := rv2.length
    have n1 : its.toArray.size = xs.length := by rw [List.size_toArray, l1]
    have n2 : its2.toArray.size = ys.length := by rw [List.size_toArray, l2]
    exact wpAny_pyNext_zipD2_end Sp (sqDraws (prog := X.prog) (w := X.w) (A := X.A.in1) (I.ok.hd hc) i1 a a1 its.toArray b1) (sqDraws (prog := X.prog) (w := X.w) (A := X.A.in1) (I.ok.hd hc) i2 b c2 its2.toArray b2) hz hTI hTO (i := i) ⟨h1, p⟩ ⟨h2, p2⟩ (by omega) (by omega) (by omega) fun h' tk hk => ⟨rfl, I.turnedL (t' := tk) (ch := [z, TI, TO, i1, i2]) (fun c o hb q =>
      hk c o (fun q' => hb (by simp [q'])) (fun q' => hb (by simp [q'])) (fun q' => hb (by simp [q'])) (fun q' => hb (by simp [q'])) q) hf⟩
  self := fun A i s Q E st h => wpAny_pyIter_zip st.1 h
def iZipS (K : PySem.W.Frag) (ta : TA) : TI := fun σ H R => ta σ H fun vs H1 => ∃ a b b1 b2 xs ys, vs = [.ref a, .ref b] ∧ Sq K H1 b1 a xs ∧ Sq K H1 b2 b ys ∧ R (ItzS K b1 b2 a b) H1
theorem pi_zipS {X : Cx} {e e2 : Expr} {ta : TA} {p pos tpos : Pos} {elts : List Expr} {kk : Nat} (hg : Gl X "zip") (hm : X.mg "zip" = none) (ha : PA X [e, e2] ta)
    (hs : starEach [e, e2] X.env = (false, eval e X.env) :: starEach [e2] X.env) (hpl : (backTo pos (starEach [e2] X.env)).any (·.1) = false) :
    PI X (.Tuple elts kk tpos) (.Call (.Name "zip" p) [e, e2] [] pos) (iZipS X.K ta) := by
  refine ⟨fun pins s σ H R I h => ?_⟩
  refine Call_ (ld_blt I hg hm PyProof.Rows.boot_zip (PyProof.Rows.callWith_type1 (thn (ha.run pos pins s σ H _ I h) fun us s1 ⟨vs, H1, I1, r1, q1⟩ => ?_) hs hpl))
  obtain ⟨a, b, b1, b2, xs, ys, ex, hqx, hqy, q⟩ := q1
  subst ex
  cases r1 with
  | cons r rr =>
    cases rr with
    | cons r' rr =>
      cases rr
      cases r
      cases r'
      obtain ⟨its, rv, p1, _⟩ := sq_inv I1 hqx
      obtain ⟨its2, rv2, p2, _⟩ := sq_inv I1 hqy
      have la : a < s1.heap.objs.size := sq_lt p1
      have lb : b < s1.heap.objs.size := sq_lt p2
      refine zip_begins2 (sqBegins a its.toArray b1) (sqBegins b its2.toArray b2) p1 p2 fun h' hz hTI hTO h1 h2 hsz hk => wpAny_pyIter_zip hz ?_
      have I2 : L2.Inv X pins σ H1 { s1 with heap := h' } := I1.kept (t' := s1.toks) hk
      have ne : ∀ {i j : Nat}, i ≠ j → s1.heap.objs.size + i ≠ s1.heap.objs.size + j := fun h e => h (Nat.add_left_cancel e)
      refine ⟨s1.heap.objs.size + 4, [s1.heap.objs.size + 4, s1.heap.objs.size + 2, s1.heap.objs.size + 3, s1.heap.objs.size, s1.heap.objs.size + 1], _, _, H1, rfl, I2,
        turn_zipS (b1 := b1) (b2 := b2) (a := a) (b := b) (ne (by decide)) (ne (by decide)) (ne (by decide)) (ne (j := 0) (by decide)) (ne (by decide)) (ne (j := 0) (by decide)) (ne (by decide)) (ne (i := 0) (by decide)) (ne (j := 0) (by decide)) (ne (by decide)) (Nat.ne_of_lt (Nat.lt_of_lt_of_le la (Nat.le_add_right _ _))) (Nat.ne_of_lt (Nat.lt_of_lt_of_le lb (Nat.le_add_right _ _))), ⟨hz, hTI, ⟨_, _, hTO⟩, sqIt_new h1, sqIt_new h2⟩, fun c hcm => ?_, q⟩
      have hle : s1.heap.objs.size ≤ c := by
        rcases (by simpa using hcm : c = s1.heap.objs.size + 4 ∨ c = s1.heap.objs.size + 2 ∨ c = s1.heap.objs.size + 3 ∨ c = s1.heap.objs.size ∨ c = s1.heap.objs.size + 1) with z | z | z | z | z
        · rw [z]; exact Nat.le_add_right _ _
        · rw [z]; exact Nat.le_add_right _ _
        · rw [z]; exact Nat.le_add_right _ _
        · rw [z]; exact Nat.le_refl _
        · rw [z]; exact Nat.le_add_right _ _
      exact I1.fpOk hle (I1.hok.fresh hle)
end Tv

/-! iterables told by trees -/
namespace Tv
open PySem PySem.Spec PyProof.Rows L2

def chars (x : Str) : List Val := x.cps.toList.map fun c => .str ⟨#[c]⟩
/-- what a loop walks -/
def vIter : Val → Res (List Val)
  | .lst xs => .ok xs
  | .tup xs => .ok xs
  | .str x => .ok (chars x)
  | .scr xs => .ok xs
  | _ => .stuck
def vSeq : Val → Res (List Val)
  | .lst xs => .ok xs
  | .scr xs => .ok xs
  | .tup xs => .ok xs
  | _ => .stuck
def enum0 : Nat → List Val → List Val
  | _, [] => []
  | i, x :: xs => .tup [.int i, x] :: enum0 (i + 1) xs
def zipV : List Val → List Val → List Val
  | x :: xs, y :: ys => .tup [x, y] :: zipV xs ys
  | _, _ => []
def rangeV (lo c : Int) (n : Nat) : List Val := (List.range n).map fun i => .int (lo + (i : Nat) * c)
theorem enum0_length : ∀ {xs : List Val} {i : Nat}, (enum0 i xs).length = xs.length
  | [], _ => rfl
  | _ :: xs, i => by unfold enum0; simp [enum0_length (xs := xs)]
theorem enum0_get : ∀ {xs : List Val} {i j : Nat} {x : Val}, xs[j]? = some x → (enum0 i xs)[j]? = some (.tup [.int ((i + j : Nat)), x])
  | [], _, _, _, h => by simp at h
  | y :: xs, i, 0, x, h => by simp at h; subst h; rfl
  | y :: xs, i, j + 1, x, h => by
    unfold enum0
    have := enum0_get (xs := xs) (i := i + 1) (j := j) (x := x) (by simpa using h)
    rw [show i + (j + 1) = i + 1 + j from by omega]
    simpa using this
theorem zipV_length : ∀ {xs ys : List Val}, (zipV xs ys).length = min xs.length ys.length
  | [], _ => by unfold zipV; simp
  | _ :: _, [] => by unfold zipV; simp
  | x :: xs, y :: ys => by unfold zipV; simp [zipV_length (xs := xs) (ys := ys)]
theorem zipV_get : ∀ {xs ys : List Val} {j : Nat} {x y : Val}, xs[j]? = some x → ys[j]? = some y → (zipV xs ys)[j]? = some (.tup [x, y])
  | [], _, _, _, _, h, _ => by simp at h
  | _ :: _, [], _, _, _, _, h => by simp at h
  | x :: xs, y :: ys, 0, a, b, h, h' => by simp at h h'; subst h h'; rfl
  | x :: xs, y :: ys, j + 1, a, b, h, h' => by
    unfold zipV
    simpa using zipV_get (xs := xs) (ys := ys) (j := j) (by simpa using h) (by simpa using h')

section
variable {K : PySem.W.Frag} {mg : Str → Option Value} {κ : List Addr} {G : Hp}
theorem rep_seq {x : Val} {v : V} {xs : List Val} (r : Rep K mg κ G x v) (h : vSeq x = .ok xs) : ∃ b a vs, v = .ref a ∧ (∀ H, Le G H → Sq K H b a vs) ∧ RepL K mg κ G xs vs := by
  cases x with
  | lst ys =>
    cases h
    unfold Rep at r
    obtain ⟨a, vs, e, q, t⟩ := r
    exact ⟨false, a, vs, e, fun H l => .inl (.inl (l _ _ q)), t⟩
  | tup ys =>
    cases h
    unfold Rep at r
    obtain ⟨a, vs, e, q, t⟩ := r
    exact ⟨true, a, vs, e, fun H l => l.sqT q, t⟩
  | scr ys =>
    cases h
    unfold Rep at r
    obtain ⟨a, vs, e, q, t⟩ := r
    exact ⟨false, a, vs, e, fun H l => l.sqL q, t⟩
  | _ => cases h
def ItSq (K : PySem.W.Frag) (b : Bool) (a : Addr) : It := ⟨fun i H => ∃ xs x, Sq K H b a xs ∧ xs[i]? = some x, fun i H x H' => H' = H ∧ ∀ xs, Sq K H b a xs → xs[i]? = some x, fun i H => ∃ xs, Sq K H b a xs ∧ xs.length ≤ i⟩
theorem turn_sq {P : Program} {w : World} {tg : Expr} (b : Bool) (a it : Addr) : Turn P w K tg (ItSq K b a) [it] it (fun i h => sqIt h it a i b) := by
  cases b
  · exact turn_list a it
  · exact turn_tuple a it
theorem lget {xs : List Val} {i : Nat} (h : i < xs.length) : xs[i]? = some xs[i] := List.getElem?_eq_getElem h
theorem itR_sq {xs : List Val} {vs : List V} {b : Bool} {a : Addr} (q : ∀ H, Le G H → Sq K H b a vs) (t : RepL K mg κ G xs vs) : ItR K mg κ G xs (ItSq K b a) where
  go := fun i H l h => by
    obtain ⟨v, hv, _⟩ := t.get (lget h)
    exact ⟨vs, v, q H l, hv⟩
  stop := fun H l => ⟨vs, q H l, by rw [t.length]; exact Nat.le_refl _⟩
  yld := fun i H x H' l h it hi => by
    obtain ⟨e, h⟩ := h
    obtain ⟨v, hv, r⟩ := t.get hi
    have e2 := h vs (q H l)
    rw [hv] at e2
    cases e2
    exact .inl ⟨e, r⟩
theorem itR_str {x : Str} : ItR K mg κ G (chars x) (Its x) where
  go := fun i H l h => by
    unfold chars at h
    rw [List.length_map, Array.length_toList] at h
    exact h
  stop := fun H l => by
    unfold chars
    rw [List.length_map, Array.length_toList]
    exact Nat.le_refl _
  yld := fun i H v H' l h it hi => by
    obtain ⟨e, c, hc, ev⟩ := h
    refine .inl ⟨e, ?_⟩
    unfold chars at hi
    rw [List.getElem?_map, Array.getElem?_toList, hc] at hi
    cases hi
    subst ev
    unfold Rep; rfl
theorem itR_rng {lo : Int} {n : Nat} : ItR K mg κ G (rangeV lo 1 n) (Itr lo n) where
  go := fun i H l h => by
    unfold rangeV at h
    show i < n
    simpa using h
  stop := fun H l => by
    unfold rangeV
    simp [Itr]
  yld := fun i H v H' l h it hi => by
    obtain ⟨e, ev⟩ := h
    refine .inl ⟨e, ?_⟩
    unfold rangeV at hi
    rw [List.getElem?_map] at hi
    cases q : (List.range n)[i]? with
    | none => rw [q] at hi; cases hi
    | some j =>
      rw [q] at hi
      have : j = i := by
        have := List.getElem?_eq_some_iff.mp q
        obtain ⟨h1, h2⟩ := this
        simpa using h2.symm
      subst this
      cases hi
      subst ev
      unfold Rep
      rw [Int.mul_one]
theorem itR_rngC {lo c : Int} {n : Nat} : ItR K mg κ G (rangeV lo c n) (Itc lo c n) where
  go := fun i H l h => by
    unfold rangeV at h
    show i < n
    simpa using h
  stop := fun H l => by
    unfold rangeV
    simp [Itc]
  yld := fun i H v H' l h it hi => by
    obtain ⟨e, ev⟩ := h
    refine .inl ⟨e, ?_⟩
    unfold rangeV at hi
    rw [List.getElem?_map] at hi
    cases q : (List.range n)[i]? with
    | none => rw [q] at hi; cases hi
    | some j =>
      rw [q] at hi
      have : j = i := by
        have := List.getElem?_eq_some_iff.mp q
        obtain ⟨h1, h2⟩ := this
        simpa using h2.symm
      subst this
      cases hi
      subst ev
      unfold Rep
      rfl
theorem itR_enum {xs : List Val} {vs : List V} {b : Bool} {a : Addr} (q : ∀ H, Le G H → Sq K H b a vs) (t : RepL K mg κ G xs vs) : ItR K mg κ G (enum0 0 xs) (IteS K b a) where
  go := fun i H l h => by
    rw [enum0_length] at h
    obtain ⟨v, hv, _⟩ := t.get (lget h)
    exact ⟨vs, v, q H l, hv⟩
  stop := fun H l => ⟨vs, q H l, by rw [enum0_length, t.length]⟩
  yld := fun i H x H' l h it hi => by
    obtain ⟨T, y, e1, e2, e3, h⟩ := h
    have hl : i < xs.length := by
      have := (List.getElem?_eq_some_iff.mp hi).1
      rw [enum0_length] at this
      exact this
    obtain ⟨v, hv, r⟩ := t.get (lget hl)
    have e4 := h vs (q H l)
    rw [hv] at e4
    cases e4
    rw [enum0_get (lget hl)] at hi
    cases hi
    exact .inr ⟨T, _, _, e2, e3, e1, rfl, .cons (by unfold Rep; rw [Nat.zero_add]) (.cons r .nil)⟩
theorem itR_zip {xs ys : List Val} {vs ws : List V} {b1 b2 : Bool} {a1 a2 : Addr} (q : ∀ H, Le G H → Sq K H b1 a1 vs) (t : RepL K mg κ G xs vs) (q2 : ∀ H, Le G H → Sq K H b2 a2 ws) (t2 : RepL K mg κ G ys ws) : ItR K mg κ G (zipV xs ys) (ItzS K b1 b2 a1 a2) where
  go := fun i H l h => by
    rw [zipV_length] at h
    obtain ⟨v, hv, _⟩ := t.get (lget (i := i) (by omega))
    obtain ⟨w, hw, _⟩ := t2.get (lget (i := i) (by omega))
    exact ⟨vs, ws, v, w, q H l, q2 H l, hv, hw⟩
  stop := fun H l => ⟨vs, ws, q H l, q2 H l, by rw [zipV_length, t.length, t2.length]⟩
  yld := fun i H x H' l h it hi => by
    obtain ⟨T, y, z, e1, e2, e3, h, h'⟩ := h
    have hl : i < (zipV xs ys).length := (List.getElem?_eq_some_iff.mp hi).1
    rw [zipV_length] at hl
    obtain ⟨v, hv, r⟩ := t.get (lget (i := i) (by omega))
    obtain ⟨w, hw, r2⟩ := t2.get (lget (i := i) (by omega))
    have e4 := h vs (q H l)
    have e5 := h' ws (q2 H l)
    rw [hv] at e4
    rw [hw] at e5
    cases e4
    cases e5
    rw [zipV_get (lget (i := i) (by omega)) (lget (i := i) (by omega))] at hi
    cases hi
    exact .inr ⟨T, _, _, e2, e3, e1, rfl, .cons r (.cons r2 .nil)⟩
end

section
variable {X : Cx} {N : List Str} {sc : Scope} {k : Nat} {E : Env} {m : Type → Type} [Mon m]
theorem vIter_exn {x : Val} {c : Str} {fs : List (Str × Val)} : vIter x ≠ .exn c fs := fun h => by cases x <;> cases h
/-- a value that is walked -/
theorem wi_val {tg e : Expr} {r : m Val} (h : Ev X E e r) : Wi X E tg e (r >>= fun x => Mon.of (vIter x)) := by
  intro B0 S κ G σ H sat W tk R q
  refine ⟨fun pins s I => ?_⟩
  refine thn ((h B0 S κ G σ H sat W tk _ (bindP (R := Rep X.K X.mg) q)).run pins s I) fun u s1 ⟨v, H1, I1, r1, x, κ1, G1, S1, e1, rx, h1⟩ => ?_
  have h2 := h1.ofOk
  cases x with
  | lst xs =>
    obtain ⟨b, a, vs, ev, hq, t⟩ := rep_seq rx rfl
    subst ev
    cases r1
    obtain ⟨its, rv, p, hz⟩ := sq_inv I1 (hq H1 e1.e.w.le)
    refine (sqBegins a its.toArray b).iter _ _ _ _ _ _ p (pi_one (tk := s1.toks) I1 _ (turn_sq b a _) (sqIt_new (Heap.get?_push_size _ (by cases b <;> rfl))) ?_)
    exact h2 κ1 G1 H1 _ (ExtB.refl e1.e.w) (itR_sq hq t)
  | tup xs =>
    obtain ⟨b, a, vs, ev, hq, t⟩ := rep_seq rx rfl
    subst ev
    cases r1
    obtain ⟨its, rv, p, hz⟩ := sq_inv I1 (hq H1 e1.e.w.le)
    refine (sqBegins a its.toArray b).iter _ _ _ _ _ _ p (pi_one (tk := s1.toks) I1 _ (turn_sq b a _) (sqIt_new (Heap.get?_push_size _ (by cases b <;> rfl))) ?_)
    exact h2 κ1 G1 H1 _ (ExtB.refl e1.e.w) (itR_sq hq t)
  | scr xs =>
    obtain ⟨b, a, vs, ev, hq, t⟩ := rep_seq rx rfl
    subst ev
    cases r1
    obtain ⟨its, rv, p, hz⟩ := sq_inv I1 (hq H1 e1.e.w.le)
    refine (sqBegins a its.toArray b).iter _ _ _ _ _ _ p (pi_one (tk := s1.toks) I1 _ (turn_sq b a _) (sqIt_new (Heap.get?_push_size _ (by cases b <;> rfl))) ?_)
    exact h2 κ1 G1 H1 _ (ExtB.refl e1.e.w) (itR_sq hq t)
  | str x =>
    unfold Rep at rx
    subst rx
    obtain ⟨t, rfl⟩ := r1
    have q := h2 κ1 G1 H1 _ (ExtB.refl e1.e.w) itR_str
    cases ha : x.cps.all (· < 128)
    · exact wpAny_pyIter_wide ha (pi_one (tk := s1.toks) I1 _ (turn_str _ x t "str_iterator" (.inr rfl)) ⟨_, Heap.get?_push_size _ rfl, rfl, rfl⟩ q)
    · exact wpAny_pyIter_ascii ha (pi_one (tk := s1.toks) I1 _ (turn_str _ x t "str_ascii_iterator" (.inl rfl)) ⟨_, Heap.get?_push_size _ rfl, rfl, rfl⟩ q)
  | _ => exact h2.elim
/-- an iterable made of arguments -/
theorem wi_args {tg iter : Expr} {es : List Expr} {rs : m (List Val)} {f : List Val → Res (List Val)} {T : TA → TI} (hp : PI X tg iter (T (WA X es)))
    (h : Ea X E es rs) (ht : ∀ σ H R ta, T ta σ H R = ta σ H (fun vs H1 => T (fun σ H Q => Q vs H) σ H1 R))
    (hf : ∀ κ G H S σ xs vs R W, Wd X.K X.mg κ G H S → RepL X.K X.mg κ G xs vs → Post X.K X.mg true (ItR X.K X.mg) κ G H S (lift (f xs) S) R W → T (fun σ H Q => Q vs H) σ H R) :
    Wi X E tg iter (rs >>= fun xs => Mon.of (f xs)) := by
  intro B0 S κ G σ H sat W tk R q
  refine wi_of hp ?_
  rw [ht]
  refine h B0 S κ G σ H sat W tk _ (bindW q fun xs vs κ1 G1 H1 S1 e1 r1 h1 => ?_)
  exact hf κ1 G1 H1 S1 σ xs vs R _ e1.e.w r1 h1.ofOk
def vRange1 : List Val → Res (List Val)
  | [.int j] => if -(2 ^ 62) ≤ j ∧ j < 2 ^ 62 then .ok (rangeV 0 1 j.toNat) else .stuck
  | _ => .stuck
def vRange2 : List Val → Res (List Val)
  | [.int i, .int j] => if -(2 ^ 62) ≤ i ∧ i < 2 ^ 62 ∧ -(2 ^ 62) ≤ j ∧ j < 2 ^ 62 then .ok (rangeV i 1 (j - i).toNat) else .stuck
  | _ => .stuck
def vRange3 : List Val → Res (List Val)
  | [.int i, .int j, .int c] => if c ≠ 0 ∧ c.natAbs < 1073741824 ∧ Builtin.Range.small i j c = true ∧ Builtin.Range.rangeSize i j c = ((Builtin.Range.rangeSize i j c).toNat : Int) then .ok (rangeV i c (Builtin.Range.rangeSize i j c).toNat) else .stuck
  | _ => .stuck
def vEnum : List Val → Res (List Val)
  | [x] => vSeq x >>= fun xs => .ok (enum0 0 xs)
  | _ => .stuck
def vZip : List Val → Res (List Val)
  | [x, y] => vSeq x >>= fun xs => vSeq y >>= fun ys => .ok (zipV xs ys)
  | _ => .stuck
theorem vSeq_cases (x : Val) : (∃ xs, vSeq x = .ok xs) ∨ vSeq x = .stuck := by cases x <;> first | exact .inl ⟨_, rfl⟩ | exact .inr rfl
variable {tg a b d : Expr} {p pos : Pos} {rs : m (List Val)}
theorem repL1 {K : PySem.W.Frag} {mg : Str → Option Value} {κ : List Addr} {G : Hp} {x : Val} {vs : List V} (h : RepL K mg κ G [x] vs) : ∃ v, vs = [v] ∧ Rep K mg κ G x v := by
  unfold RepL at h
  obtain ⟨v, r, e, h1, h2⟩ := h
  unfold RepL at h2
  subst h2 e
  exact ⟨v, rfl, h1⟩
theorem repL2 {K : PySem.W.Frag} {mg : Str → Option Value} {κ : List Addr} {G : Hp} {x y : Val} {vs : List V} (h : RepL K mg κ G [x, y] vs) : ∃ v u, vs = [v, u] ∧ Rep K mg κ G x v ∧ Rep K mg κ G y u := by
  unfold RepL at h
  obtain ⟨v, r, e, h1, h2⟩ := h
  obtain ⟨u, e2, h3⟩ := repL1 h2
  subst e e2
  exact ⟨v, u, rfl, h1, h3⟩
theorem repL3 {K : PySem.W.Frag} {mg : Str → Option Value} {κ : List Addr} {G : Hp} {x y z : Val} {vs : List V} (h : RepL K mg κ G [x, y, z] vs) : ∃ v u w, vs = [v, u, w] ∧ Rep K mg κ G x v ∧ Rep K mg κ G y u ∧ Rep K mg κ G z w := by
  unfold RepL at h
  obtain ⟨v, r, e, h1, h2⟩ := h
  obtain ⟨u, w, e2, h3, h4⟩ := repL2 h2
  subst e e2
  exact ⟨v, u, w, rfl, h1, h3, h4⟩
theorem rep_int {K : PySem.W.Frag} {mg : Str → Option Value} {κ : List Addr} {G : Hp} {i : Int} {v : V} (h : Rep K mg κ G (.int i) v) : v = .int i := by unfold Rep at h; exact h
theorem wi_range1 (c : Ctx X N sc k) (hg : glB sc "range" = true) (hm : X.mg "range" = none) (ha : Ea X E [a] rs) (hs : notStar a = true := by rfl) :
    Wi X E tg (.Call (.Name "range" p) [a] [] pos) (rs >>= fun xs => Mon.of (vRange1 xs)) := by
  refine wi_args (T := iRng1) (pi_range1 (c.gl hg).1 hm pa_self (star_of hs [] X.env)) ha (fun _ _ _ _ => rfl) fun κ G H S σ xs vs R W w r h => ?_
  unfold vRange1 at h
  split at h
  · split at h
    · obtain ⟨v, e, rv⟩ := repL1 r
      rw [rep_int rv] at e
      subst e
      rename_i hh
      exact ⟨_, rfl, hh.1, hh.2, h κ G H _ (ExtB.refl w) itR_rng⟩
    · exact h.elim
  · exact h.elim
theorem wi_range2 (c : Ctx X N sc k) (hg : glB sc "range" = true) (hm : X.mg "range" = none) (ha : Ea X E [a, b] rs) (hs : notStar a = true := by rfl) (hs2 : notStar b = true := by rfl) :
    Wi X E tg (.Call (.Name "range" p) [a, b] [] pos) (rs >>= fun xs => Mon.of (vRange2 xs)) := by
  refine wi_args (T := iRng2) (pi_range2 (c.gl hg).1 hm pa_self ((star_of hs [b] X.env).trans (by rw [star_of hs2 [] X.env]; rfl)) (star_of hs2 [] X.env)) ha (fun _ _ _ _ => rfl) fun κ G H S σ xs vs R W w r h => ?_
  unfold vRange2 at h
  split at h
  · split at h
    · obtain ⟨v, u, e, rv, ru⟩ := repL2 r
      rw [rep_int rv, rep_int ru] at e
      subst e
      rename_i hh
      exact ⟨_, _, rfl, hh, h κ G H _ (ExtB.refl w) itR_rng⟩
    · exact h.elim
  · exact h.elim
theorem wi_range3 (c : Ctx X N sc k) (hg : glB sc "range" = true) (hm : X.mg "range" = none) (ha : Ea X E [a, b, d] rs) (hs : noStars [a, b, d] = true := by rfl) :
    Wi X E tg (.Call (.Name "range" p) [a, b, d] [] pos) (rs >>= fun xs => Mon.of (vRange3 xs)) := by
  obtain ⟨s1, s2⟩ := Bool.and_eq_true_iff.mp hs
  refine wi_args (T := iRng3) (pi_range3 (c.gl hg).1 hm pa_self (star_of s1 _ X.env) (plain_of s2 pos X.env)) ha (fun _ _ _ _ => rfl) fun κ G H S σ xs vs R W w r h => ?_
  unfold vRange3 at h
  split at h
  · split at h
    · obtain ⟨v, u, z, e, rv, ru, rz⟩ := repL3 r
      rw [rep_int rv, rep_int ru, rep_int rz] at e
      subst e
      rename_i hh
      exact ⟨_, _, _, _, rfl, hh, h κ G H _ (ExtB.refl w) itR_rngC⟩
    · exact h.elim
  · exact h.elim
theorem wi_enum (c : Ctx X N sc k) {elts : List Expr} {kk} {tpos : Pos} (hg : glB sc "enumerate" = true) (hm : X.mg "enumerate" = none) (ha : Ea X E [a] rs) (hs : notStar a = true := by rfl) :
    Wi X E (.Tuple elts kk tpos) (.Call (.Name "enumerate" p) [a] [] pos) (rs >>= fun xs => Mon.of (vEnum xs)) := by
  refine wi_args (T := iEnumS X.K) (pi_enumS (c.gl hg).1 hm pa_self (star_of hs [] X.env)) ha (fun _ _ _ _ => rfl) fun κ G H S σ xs vs R W w r h => ?_
  unfold vEnum at h
  split at h
  · rename_i x
    obtain ⟨v, e, rv⟩ := repL1 r
    rcases vSeq_cases x with ⟨ys, hy⟩ | hy
    · rw [hy] at h
      obtain ⟨b, ad, ws, ev, hq, t⟩ := rep_seq rv hy
      subst ev e
      exact ⟨ad, b, ws, rfl, hq H w.le, h κ G H _ (ExtB.refl w) (itR_enum hq t)⟩
    · rw [hy] at h
      exact h.elim
  · exact h.elim
theorem wi_zip (c : Ctx X N sc k) {elts : List Expr} {kk} {tpos : Pos} (hg : glB sc "zip" = true) (hm : X.mg "zip" = none) (ha : Ea X E [a, b] rs) (hs : noStars [a, b] = true := by rfl) :
    Wi X E (.Tuple elts kk tpos) (.Call (.Name "zip" p) [a, b] [] pos) (rs >>= fun xs => Mon.of (vZip xs)) := by
  obtain ⟨s1, s2⟩ := Bool.and_eq_true_iff.mp hs
  refine wi_args (T := iZipS X.K) (pi_zipS (c.gl hg).1 hm pa_self (star_of s1 _ X.env) (plain_of s2 pos X.env)) ha (fun _ _ _ _ => rfl) fun κ G H S σ xs vs R W w r h => ?_
  unfold vZip at h
  split at h
  · rename_i x y
    obtain ⟨v, u, e, rv, ru⟩ := repL2 r
    rcases vSeq_cases x with ⟨xs', hx⟩ | hx
    · rw [hx] at h
      rcases vSeq_cases y with ⟨ys, hy⟩ | hy
      · have h : Post X.K X.mg true (ItR X.K X.mg) κ G H S (lift (vSeq y >>= fun ys => .ok (zipV xs' ys)) S) R W := h
        rw [hy] at h
        obtain ⟨b1, a1, ws, ev, hq, t⟩ := rep_seq rv hx
        obtain ⟨b2, a2, ws2, ev2, hq2, t2⟩ := rep_seq ru hy
        subst ev ev2 e
        exact ⟨a1, a2, b1, b2, ws, ws2, rfl, hq H w.le, hq2 H w.le, h κ G H _ (ExtB.refl w) (itR_zip hq t hq2 t2)⟩
      · have h : Post X.K X.mg true (ItR X.K X.mg) κ G H S (lift (vSeq y >>= fun ys => .ok (zipV xs' ys)) S) R W := h
        rw [hy] at h
        exact h.elim
    · rw [hx] at h
      exact h.elim
  · exact h.elim
end
end Tv

/-! operations on trees -/
namespace Tv
open PySem PySem.Spec PyProof.Rows L2

section
variable {K : PySem.W.Frag} {mg : Str → Option Value} {κ : List Addr} {G H : Hp} {v : V}
theorem rep_non (h : Rep K mg κ G .non v) : v = .non := by unfold Rep at h; exact h
theorem rep_bl {i : Bool} (h : Rep K mg κ G (.bl i) v) : v = .bl i := by unfold Rep at h; exact h
theorem rep_str {i : Str} (h : Rep K mg κ G (.str i) v) : v = .str i := by unfold Rep at h; exact h
theorem rep_lst {xs : List Val} (h : Rep K mg κ G (.lst xs) v) : ∃ a vs, v = .ref a ∧ G a = some (.lst vs) ∧ RepL K mg κ G xs vs := by unfold Rep at h; exact h
theorem rep_scr {xs : List Val} (h : Rep K mg κ G (.scr xs) v) : ∃ a vs, v = .ref a ∧ SqL K G a vs ∧ RepL K mg κ G xs vs := by unfold Rep at h; exact h
theorem rep_tup {xs : List Val} (h : Rep K mg κ G (.tup xs) v) : ∃ a vs, v = .ref a ∧ SqT K G a vs ∧ RepL K mg κ G xs vs := by unfold Rep at h; exact h
theorem repI (i : Int) : Rep K mg κ G (.int i) (.int i) := by unfold Rep; rfl
theorem repB (i : Bool) : Rep K mg κ G (.bl i) (.bl i) := by unfold Rep; rfl
theorem repS (i : Str) : Rep K mg κ G (.str i) (.str i) := by unfold Rep; rfl
theorem repN : Rep K mg κ G .non .non := by unfold Rep; rfl
theorem RepL.take : ∀ {xs : List Val} {vs : List V} (n : Nat), RepL K mg κ G xs vs → RepL K mg κ G (xs.take n) (vs.take n)
  | _, _, 0, _ => .nil
  | [], _, n + 1, h => by unfold RepL at h; subst h; exact .nil
  | x :: xs, _, n + 1, h => by
    unfold RepL at h
    obtain ⟨v, r, e, h1, h2⟩ := h
    subst e
    exact .cons h1 (RepL.take n h2)
theorem RepL.drop : ∀ {xs : List Val} {vs : List V} (n : Nat), RepL K mg κ G xs vs → RepL K mg κ G (xs.drop n) (vs.drop n)
  | _, _, 0, h => h
  | [], _, n + 1, h => by unfold RepL at h; subst h; exact .nil
  | x :: xs, _, n + 1, h => by
    unfold RepL at h
    obtain ⟨v, r, e, h1, h2⟩ := h
    subst e
    exact RepL.drop n h2
theorem RepL.reps {xs : List Val} {vs : List V} (h : RepL K mg κ G xs vs) : ∀ n : Nat, RepL K mg κ G (List.replicate n xs).flatten (List.replicate n vs).flatten
  | 0 => .nil
  | n + 1 => by
    rw [List.replicate_succ, List.replicate_succ, List.flatten_cons, List.flatten_cons]
    exact h.append (RepL.reps h n)
theorem RepL.reverse : ∀ {xs : List Val} {vs : List V}, RepL K mg κ G xs vs → RepL K mg κ G xs.reverse vs.reverse
  | [], _, h => by unfold RepL at h; subst h; exact .nil
  | x :: xs, _, h => by
    unfold RepL at h
    obtain ⟨v, r, e, h1, h2⟩ := h
    subst e
    rw [List.reverse_cons, List.reverse_cons]
    exact (RepL.reverse h2).append (.cons h1 .nil)
theorem RepL.set : ∀ {xs : List Val} {vs : List V} {x : Val} {v : V} (n : Nat), RepL K mg κ G xs vs → Rep K mg κ G x v → RepL K mg κ G (xs.set n x) (vs.set n v)
  | [], _, _, _, n, h, r => by unfold RepL at h; subst h; exact .nil
  | x :: xs, _, _, _, 0, h, r => by
    unfold RepL at h
    obtain ⟨v, r', e, h1, h2⟩ := h
    subst e
    exact .cons r h2
  | x :: xs, _, _, _, n + 1, h, r => by
    unfold RepL at h
    obtain ⟨v, r', e, h1, h2⟩ := h
    subst e
    exact .cons h1 (RepL.set n h2 r)
def intsV : List Val → Option (List Int)
  | [] => some []
  | .int i :: xs => (intsV xs).map (i :: ·)
  | _ => none
def strsV : List Val → Option (List Str)
  | [] => some []
  | .str i :: xs => (strsV xs).map (i :: ·)
  | _ => none
def boolsV : List Val → Option (List Bool)
  | [] => some []
  | .bl i :: xs => (boolsV xs).map (i :: ·)
  | _ => none
theorem ints_rep : ∀ {xs : List Val} {ns : List Int} {vs : List V}, intsV xs = some ns → RepL K mg κ G xs vs → vs = ns.map V.int
  | [], _, _, e, h => by cases e; unfold RepL at h; exact h
  | x :: xs, ns, _, e, h => by
    unfold RepL at h
    obtain ⟨v, r, e', h1, h2⟩ := h
    cases x with
    | int i =>
      unfold intsV at e
      cases q : intsV xs with
      | none => rw [q] at e; cases e
      | some ms =>
        rw [q] at e
        cases e
        rw [e', rep_int h1, ints_rep q h2]
        rfl
    | _ => cases e
theorem strs_rep : ∀ {xs : List Val} {ns : List Str} {vs : List V}, strsV xs = some ns → RepL K mg κ G xs vs → vs = ns.map V.str
  | [], _, _, e, h => by cases e; unfold RepL at h; exact h
  | x :: xs, ns, _, e, h => by
    unfold RepL at h
    obtain ⟨v, r, e', h1, h2⟩ := h
    cases x with
    | str i =>
      unfold strsV at e
      cases q : strsV xs with
      | none => rw [q] at e; cases e
      | some ms =>
        rw [q] at e
        cases e
        rw [e', rep_str h1, strs_rep q h2]
        rfl
    | _ => cases e
theorem bools_rep : ∀ {xs : List Val} {ns : List Bool} {vs : List V}, boolsV xs = some ns → RepL K mg κ G xs vs → vs = ns.map V.bl
  | [], _, _, e, h => by cases e; unfold RepL at h; exact h
  | x :: xs, ns, _, e, h => by
    unfold RepL at h
    obtain ⟨v, r, e', h1, h2⟩ := h
    cases x with
    | bl i =>
      unfold boolsV at e
      cases q : boolsV xs with
      | none => rw [q] at e; cases e
      | some ms =>
        rw [q] at e
        cases e
        rw [e', rep_bl h1, bools_rep q h2]
        rfl
    | _ => cases e
theorem rep_ints : ∀ (ns : List Int), RepL K mg κ G (ns.map Val.int) (ns.map V.int)
  | [] => .nil
  | n :: ns => .cons (repI n) (rep_ints ns)
mutual
def toPD : Val → Option PyData
  | .non => some .none
  | .bl b => some (.bool b)
  | .int i => some (.int i)
  | .str x => some (.str x)
  | .lst xs => (toPDs xs).map .list
  | .tup xs => (toPDs xs).map .tuple
  | _ => none
def toPDs : List Val → Option (List PyData)
  | [] => some []
  | x :: xs => match toPD x, toPDs xs with
    | some d, some ds => some (d :: ds)
    | _, _ => none
end
mutual
theorem dp_of (l : Le G H) : ∀ {x : Val} {v : V} {d : PyData}, Rep K mg κ G x v → toPD x = some d → Dp K H v d
  | .non, _, _, h, e => by cases e; rw [rep_non h]; exact .non
  | .bl b, _, _, h, e => by cases e; rw [rep_bl h]; exact .bl b
  | .int b, _, _, h, e => by cases e; rw [rep_int h]; exact .int b
  | .str b, _, _, h, e => by cases e; rw [rep_str h]; exact .str b
  | .lst xs, _, _, h, e => by
    obtain ⟨a, vs, ev, q, t⟩ := rep_lst h
    unfold toPD at e
    cases q2 : toPDs xs with
    | none => rw [q2] at e; cases e
    | some ds =>
      rw [q2] at e
      cases e
      subst ev
      exact .lst (.inl (.inl (l _ _ q))) (dps_of l t q2)
  | .tup xs, _, _, h, e => by
    obtain ⟨a, vs, ev, q, t⟩ := rep_tup h
    unfold toPD at e
    cases q2 : toPDs xs with
    | none => rw [q2] at e; cases e
    | some ds =>
      rw [q2] at e
      cases e
      subst ev
      exact .tup (l.sqT q) (dps_of l t q2)
  | .dic _, _, _, _, e => by cases e
  | .obj _ _, _, _, _, e => by cases e
  | .cell _, _, _, _, e => by cases e
  | .scr _, _, _, _, e => by cases e
theorem dps_of (l : Le G H) : ∀ {xs : List Val} {vs : List V} {ds : List PyData}, RepL K mg κ G xs vs → toPDs xs = some ds → DpAll K H vs ds
  | [], _, _, h, e => by unfold RepL at h; subst h; cases e; exact .nil
  | x :: xs, _, _, h, e => by
    unfold RepL at h
    obtain ⟨v, r, e', h1, h2⟩ := h
    subst e'
    unfold toPDs at e
    cases q1 : toPD x with
    | none => rw [q1] at e; cases e
    | some d =>
      cases q2 : toPDs xs with
      | none => rw [q1, q2] at e; cases e
      | some ds =>
        rw [q1, q2] at e
        cases e
        exact .cons (dp_of l h1 q1) (dps_of l h2 q2)
end
end

/-! ### what the operations do -/
def oAdd : Val → Val → Res Val
  | .int i, .int j => .ok (.int (i + j))
  | .str x, .str y => if x.length + y.length ≤ sizeLine then .ok (.str (x ++ y)) else .stuck
  | .lst xs, .lst ys => if xs.length + ys.length ≤ sizeLine then .ok (.lst (xs ++ ys)) else .stuck
  | .tup xs, .tup ys => if xs.length + ys.length ≤ sizeLine then .ok (.tup (xs ++ ys)) else .stuck
  | _, _ => .stuck
def oSub : Val → Val → Res Val
  | .int i, .int j => .ok (.int (i - j))
  | _, _ => .stuck
def smallB (i : Int) : Bool := decide (-18446744073709551616 < i) && decide (i < 18446744073709551616)
def oMul : Val → Val → Res Val
  | .int i, .int j => if (smallB i || smallB j) = true then .ok (.int (i * j)) else if i.natAbs.log2 + j.natAbs.log2 < 1000000 then .ok (.int (i * j)) else .stuck
  | .lst xs, .int k => if decide (-9223372036854775808 ≤ k) && decide (k < 9223372036854775808) && decide (xs.length * k.toNat ≤ sizeLine) then .ok (.lst (List.replicate k.toNat xs).flatten) else .stuck
  | .tup xs, .int k => if k = 1 then .ok (.tup xs) else if !xs.isEmpty && decide (2 ≤ k) && decide (k ≤ 1000) && decide (xs.length ≤ 1000) then .ok (.tup (List.replicate k.toNat xs).flatten) else .stuck
  | _, _ => .stuck
def oFdiv : Val → Val → Res Val
  | .int i, .int j => if j ≠ 0 ∧ j.natAbs < 1073741824 then .ok (.int (i.fdiv j)) else if 0 < j ∧ j.natAbs.log2 < 9000 then .ok (.int (i.fdiv j)) else .stuck
  | _, _ => .stuck
def oMod : Val → Val → Res Val
  | .int i, .int j => if j ≠ 0 then .ok (.int (i.fmod j)) else .stuck
  | _, _ => .stuck
def oPow : Val → Val → Res Val
  | .int i, .int j => if 0 ≤ j ∧ j ≤ 1000000 ∧ i.natAbs < 18446744073709551616 then .ok (.int (i ^ j.toNat)) else .stuck
  | _, _ => .stuck
def oAnd : Val → Val → Res Val
  | .int i, .int j => .ok (.int (Builtin.bitAnd i j))
  | _, _ => .stuck
def oLt : Val → Val → Res Val
  | .int i, .int j => .ok (.bl (decide (i < j)))
  | _, _ => .stuck
def oLe : Val → Val → Res Val
  | .int i, .int j => .ok (.bl (decide (i ≤ j)))
  | _, _ => .stuck
def oGt : Val → Val → Res Val
  | .int i, .int j => .ok (.bl (decide (j < i)))
  | _, _ => .stuck
def oGe : Val → Val → Res Val
  | .int i, .int j => .ok (.bl (decide (j ≤ i)))
  | _, _ => .stuck
def pdEq (x y : Val) : Option Bool := match toPD x, toPD y with
  | some d, some e => if SeqAt.shaped d && SeqAt.shaped e then some (PyData.eqv d e) else none
  | _, _ => none
def strEq : Val → Val → Res Bool
  | .str a, .str b => .ok (decide (a = b))
  | _, _ => .stuck
def oEq (x y : Val) : Res Val := match pdEq x y with
  | some b => .ok (.bl b)
  | none => match strEq x y with
    | .ok b => .ok (.bl b)
    | _ => .stuck
def oNe (x y : Val) : Res Val := match pdEq x y with
  | some b => .ok (.bl (!b))
  | none => match strEq x y with
    | .ok b => .ok (.bl (!b))
    | _ => .stuck
theorem strEq_ok {x y : Val} {b : Bool} (h : strEq x y = .ok b) : ∃ a c, x = .str a ∧ y = .str c ∧ b = decide (a = c) := by
  unfold strEq at h
  split at h
  · cases h; exact ⟨_, _, rfl, rfl, rfl⟩
  · cases h
def isNon : Val → Bool
  | .non => true
  | _ => false
def oIsN : Val → Val → Res Val
  | x, .non => .ok (.bl (isNon x))
  | _, _ => .stuck
def oNotN : Val → Val → Res Val
  | x, .non => .ok (.bl (!isNon x))
  | _, _ => .stuck
def pdIn (x : Val) (ys : List Val) : Option Bool := match toPD x, toPDs ys with
  | some d, some ds => if SeqAt.shaped d && SeqAt.shaped (.list ds) then some (ds.any fun z => PyData.eqv z d) else none
  | _, _ => none
/-- a value of a flat kind -/
def flatB : Val → Bool
  | .non => true
  | .bl _ => true
  | .int _ => true
  | .str _ => true
  | _ => false
def eqB : Val → Val → Bool
  | .non, .non => true
  | .bl a, .bl b => a == b
  | .bl a, .int j => (if a then 1 else 0) == j
  | .int i, .bl b => i == (if b then 1 else 0)
  | .int i, .int j => i == j
  | .str a, .str b => a == b
  | _, _ => false
def inB (x : Val) (ys : List Val) : Res Bool :=
  if flatB x && ys.all flatB then .ok (ys.any fun y => eqB y x) else match pdIn x ys with
    | some b => .ok b
    | none => .stuck

section
variable {X : Cx}
theorem Post.okR {α γ : Type} {K : PySem.W.Frag} {mg : Str → Option Value} {p : Bool} {R : List Addr → Hp → α → γ → Prop} {κ : List Addr} {G H : Hp} {S : Cells} {x : α} {v : γ} {Q : γ → Hp → Prop} {W : Value → Option Addr → Hp → Prop}
    (h : Post K mg p R κ G H S (lift (.ok x) S) Q W) (w : Wd K mg κ G H S) (r : R κ G x v) : Q v H := h κ G H v (ExtB.refl w) r
theorem o_add : Op2 X (binaryOp .Add) oAdd := by
  intro κ G H S x y v u Q W w rx ry h
  unfold oAdd at h
  split at h
  · rw [rep_int rx, rep_int ry]; exact wo_of op_add ⟨_, _, rfl, rfl, h.okR w (repI _)⟩
  · split at h
    · rw [rep_str rx, rep_str ry]; exact wo_of op_add_str ⟨_, _, rfl, rfl, by assumption, h.okR w (repS _)⟩
    · exact h.elim
  · split at h
    · obtain ⟨a, vs, e, q, t⟩ := rep_lst rx
      obtain ⟨b, ws, e2, q2, t2⟩ := rep_lst ry
      subst e e2
      exact wo_of op_cat ⟨a, b, vs, ws, rfl, rfl, w.le _ _ q, w.le _ _ q2, by rw [t.length, t2.length]; assumption, fun p hp => new_lst w hp (t.append t2) h⟩
    · exact h.elim
  · split at h
    · obtain ⟨a, vs, e, q, t⟩ := rep_tup rx
      obtain ⟨b, ws, e2, q2, t2⟩ := rep_tup ry
      subst e e2
      refine wo_of op_catA ⟨a, b, vs, ws, rfl, rfl, w.le.sqT q, w.le.sqT q2, by rw [t.length, t2.length]; assumption, fun e => ?_, fun e e2 => ?_, fun e e2 p hp => new_tup w hp (t.append t2) h⟩
      · refine h.okR w ?_
        unfold Rep
        refine ⟨b, ws, rfl, q2, ?_⟩
        have := t.append t2
        rw [e] at this
        exact this
      · refine h.okR w ?_
        unfold Rep
        refine ⟨a, vs, rfl, q, ?_⟩
        have := t.append t2
        rw [e2, List.append_nil] at this
        exact this
    · exact h.elim
  · exact h.elim
theorem o_sub : Op2 X (binaryOp .Sub) oSub := by
  intro κ G H S x y v u Q W w rx ry h
  unfold oSub at h
  split at h
  · rw [rep_int rx, rep_int ry]; exact wo_of op_sub ⟨_, _, rfl, rfl, h.okR w (repI _)⟩
  · exact h.elim
theorem smallB_of {i : Int} (h : smallB i = true) : -(2 ^ 64) < i ∧ i < 2 ^ 64 := by
  unfold smallB at h
  simp only [Bool.and_eq_true, decide_eq_true_eq] at h
  omega
open AutoSeq1 (wpAny_loadPart') in
open MeetsSeq MeetsSeq2 MeetsSeq3 SeqRoads2 in
theorem tuple_mul1 (l : Addr) (items : Array Value) (n : Nat) (dd : Option Addr) (sl : Array (Option Value)) (u : Tok) :
    Meets (Builtin.«tuple.__mul__» ⟨[.ref l, .int 1 u], []⟩) (fun _ R s => s.heap.get? l = some { cls := .type "tuple", dict := dd, data := .seq items n, slots := sl } ∧
      R (.ok (.ret (Value.ref l))) { s with toks := s.toks }) :=
  .of_wp fun prog w A R s h => by
    obtain ⟨hp, g, d, tk, os⟩ := s
    obtain ⟨hl, h⟩ := h
    have f1 := AutoSeq1.idx_int
    wp_walk using wpAny_loadPart' hl
    exact ⟨_, rfl, h⟩
open AutoSeq1 (wpAny_loadPart') in
open MeetsSeq MeetsSeq2 MeetsSeq3 SeqRoads2 in
/-- t * 1: the same tuple -/
theorem op_repT1 : OpR X (binaryOp .Mult) (fun x y H Q => ∃ l xs, x = .ref l ∧ y = .int 1 ∧ SqT X.K H l xs ∧ Q (.ref l) H) := by
  intro pins s σ H x y v u Q I rx ry h
  obtain ⟨l, xs, rfl, rfl, hT, q⟩ := h
  cases rx
  obtain ⟨t, rfl⟩ := ry
  obtain ⟨its, r, ⟨⟨cls, dd, data, sl⟩, ho, hc, n, hd⟩, hs⟩ := I.tuple hT
  simp only at hc hd
  subst hc hd
  refine wpAny_binaryOp_repeat_ref (T := "tuple") (U := "int") (by decide) ⟨_, ho, rfl⟩ (fun s' => typeIs_int s' 1 t) noFill_tuple_mul F.fills_int_mul F.slot_int_rmul repeat_tuple F.slot_int_index.lookup
    (call_meets F.slot_int_rmul (typeIs_int s 1 t) F.entry_int_rmul (F.args_int_rmul_2 _ _) (int_rmul_tuple 1 t l its.toArray n dd sl)
      ⟨ho, rfl, ⟨_, ho, rfl⟩, call_meets F.slot_tuple_mul ⟨_, ho, rfl⟩ F.entry_tuple_mul (F.args_tuple_mul_2 _ _) (tuple_mul1 l its.toArray n dd sl t) ⟨ho, ?_⟩⟩)
  exact ⟨.ref l, H, I, rfl, q⟩
theorem o_mul : Op2 X (binaryOp .Mult) oMul := by
  intro κ G H S x y v u Q W w rx ry h
  unfold oMul at h
  split at h
  · split at h
    · rename_i hh
      rw [rep_int rx, rep_int ry]
      refine wo_of op_mul ⟨_, _, rfl, rfl, ?_, h.okR w (repI _)⟩
      rcases Bool.or_eq_true_iff.mp hh with z | z
      · exact .inl (smallB_of z)
      · exact .inr (smallB_of z)
    · split at h
      · rename_i hh
        rw [rep_int rx, rep_int ry]
        exact wo_of op_mulW ⟨_, _, rfl, rfl, hh, h.okR w (repI _)⟩
      · exact h.elim
  · split at h
    · rename_i hh
      simp only [Bool.and_eq_true, decide_eq_true_eq] at hh
      obtain ⟨a, vs, e, q, t⟩ := rep_lst rx
      subst e
      rw [rep_int ry]
      exact wo_of op_rep ⟨a, _, vs, rfl, rfl, w.le _ _ q, by omega, by omega, by rw [t.length]; exact hh.2, fun p hp => new_lst w hp (t.reps _) h⟩
    · exact h.elim
  · split at h
    · rename_i hh
      subst hh
      rw [rep_int ry]
      obtain ⟨a, vs, e, q, t⟩ := rep_tup rx
      rw [e]
      exact wo_of op_repT1 ⟨a, vs, rfl, rfl, w.le.sqT q, h.okR w (by rw [← e]; exact rx)⟩
    split at h
    · rename_i hh
      simp only [Bool.and_eq_true, decide_eq_true_eq, Bool.not_eq_true'] at hh
      obtain ⟨a, vs, e, q, t⟩ := rep_tup rx
      subst e
      rw [rep_int ry]
      refine wo_of op_repT ⟨a, _, vs, rfl, rfl, w.le.sqT q, ?_, by omega, by omega, by rw [t.length]; exact hh.2, fun p hp => new_tup w hp (t.reps _) h⟩
      intro z
      have l := t.length
      rw [z] at l
      rename_i xs k _
      cases xs with
      | nil => simp at hh
      | cons _ _ => simp at l
    · exact h.elim
  · exact h.elim
theorem o_fdiv : Op2 X (binaryOp .FloorDiv) oFdiv := by
  intro κ G H S x y v u Q W w rx ry h
  unfold oFdiv at h
  split at h
  · split at h
    · rw [rep_int rx, rep_int ry]; exact wo_of op_fdivN ⟨_, _, rfl, rfl, by assumption, h.okR w (repI _)⟩
    · split at h
      · rename_i hh
        rw [rep_int rx, rep_int ry]
        exact wo_of op_fdivW ⟨_, _, rfl, rfl, hh, h.okR w (by rw [Int.fdiv_eq_ediv_of_nonneg _ (by omega)]; exact repI _)⟩
      · exact h.elim
  · exact h.elim
theorem o_mod : Op2 X (binaryOp .Mod) oMod := by
  intro κ G H S x y v u Q W w rx ry h
  unfold oMod at h
  split at h
  · split at h
    · rw [rep_int rx, rep_int ry]; exact wo_of op_modN ⟨_, _, rfl, rfl, by assumption, h.okR w (repI _)⟩
    · exact h.elim
  · exact h.elim
theorem o_pow : Op2 X (binaryOp .Pow) oPow := by
  intro κ G H S x y v u Q W w rx ry h
  unfold oPow at h
  split at h
  · split at h
    · rename_i hh
      rw [rep_int rx, rep_int ry]; exact wo_of op_pow ⟨_, _, rfl, rfl, ⟨hh.1, hh.2.1, by omega⟩, h.okR w (repI _)⟩
    · exact h.elim
  · exact h.elim
theorem o_and : Op2 X (binaryOp .BitAnd) oAnd := by
  intro κ G H S x y v u Q W w rx ry h
  unfold oAnd at h
  split at h
  · rw [rep_int rx, rep_int ry]; exact wo_of op_and ⟨_, _, rfl, rfl, h.okR w (repI _)⟩
  · exact h.elim
theorem o_lt : Op2 X (compareOp .Lt) oLt := by
  intro κ G H S x y v u Q W w rx ry h
  unfold oLt at h
  split at h
  · rw [rep_int rx, rep_int ry]; exact wo_of op_lt ⟨_, _, rfl, rfl, h.okR w (repB _)⟩
  · exact h.elim
theorem o_le : Op2 X (compareOp .LtE) oLe := by
  intro κ G H S x y v u Q W w rx ry h
  unfold oLe at h
  split at h
  · rw [rep_int rx, rep_int ry]; exact wo_of op_le ⟨_, _, rfl, rfl, h.okR w (repB _)⟩
  · exact h.elim
theorem o_gt : Op2 X (compareOp .Gt) oGt := by
  intro κ G H S x y v u Q W w rx ry h
  unfold oGt at h
  split at h
  · rw [rep_int rx, rep_int ry]; exact wo_of op_gt ⟨_, _, rfl, rfl, h.okR w (repB _)⟩
  · exact h.elim
theorem o_ge : Op2 X (compareOp .GtE) oGe := by
  intro κ G H S x y v u Q W w rx ry h
  unfold oGe at h
  split at h
  · rw [rep_int rx, rep_int ry]; exact wo_of op_ge ⟨_, _, rfl, rfl, h.okR w (repB _)⟩
  · exact h.elim
theorem pdEq_of {x y : Val} {b : Bool} (h : pdEq x y = some b) : ∃ d e, toPD x = some d ∧ toPD y = some e ∧ SeqAt.shaped d = true ∧ SeqAt.shaped e = true ∧ PyData.eqv d e = b := by
  unfold pdEq at h
  split at h
  · split at h
    · rename_i hh
      obtain ⟨h1, h2⟩ := Bool.and_eq_true_iff.mp hh
      cases h
      exact ⟨_, _, by assumption, by assumption, h1, h2, rfl⟩
    · cases h
  · cases h
section
variable {N : List Str} {sc : Scope} {k : Nat}
theorem o_eq (c : Ctx X N sc k) : Op2 X (compareOp .Eq) oEq := by
  intro κ G H S x y v u Q W w rx ry h
  unfold oEq at h
  split at h
  · obtain ⟨d, e, h1, h2, h3, h4, h5⟩ := pdEq_of (by assumption)
    exact wo_of (op_eqD c.room.units) ⟨d, e, dp_of w.le rx h1, dp_of w.le ry h2, h3, h4, h.okR w (by rw [h5]; exact repB _)⟩
  · split at h
    · obtain ⟨a, b, e1, e2, e3⟩ := strEq_ok (by assumption)
      subst e1 e2 e3
      rw [rep_str rx, rep_str ry]
      refine wo_of op_eq ⟨rfl, h.okR w ?_⟩
      rw [show decide (V.str a = V.str b) = decide (a = b) from by rw [decide_eq_decide]; exact ⟨fun z => V.str.inj z, fun z => by rw [z]⟩]
      exact repB _
    · exact h.elim
theorem o_ne (c : Ctx X N sc k) : Op2 X (compareOp .NotEq) oNe := by
  intro κ G H S x y v u Q W w rx ry h
  unfold oNe at h
  split at h
  · obtain ⟨d, e, h1, h2, h3, h4, h5⟩ := pdEq_of (by assumption)
    exact wo_of (op_neD c.room.units) ⟨d, e, dp_of w.le rx h1, dp_of w.le ry h2, h3, h4, h.okR w (by rw [h5]; exact repB _)⟩
  · split at h
    · obtain ⟨a, b, e1, e2, e3⟩ := strEq_ok (by assumption)
      subst e1 e2 e3
      rw [rep_str rx, rep_str ry]
      refine wo_of op_ne ⟨rfl, h.okR w ?_⟩
      rw [show decide (V.str a = V.str b) = decide (a = b) from by rw [decide_eq_decide]; exact ⟨fun z => V.str.inj z, fun z => by rw [z]⟩]
      exact repB _
    · exact h.elim
end
theorem isNon_rep {K : PySem.W.Frag} {mg : Str → Option Value} {κ : List Addr} {G : Hp} {x : Val} {v : V} (h : Rep K mg κ G x v) : decide (v = .non) = isNon x := by
  cases x with
  | non => rw [rep_non h]; rfl
  | bl _ => rw [rep_bl h]; rfl
  | int _ => rw [rep_int h]; rfl
  | str _ => rw [rep_str h]; rfl
  | lst _ => obtain ⟨a, _, e, _⟩ := rep_lst h; rw [e]; rfl
  | tup _ => obtain ⟨a, _, e, _⟩ := rep_tup h; rw [e]; rfl
  | dic _ => unfold Rep at h; obtain ⟨a, _, e, _⟩ := h; rw [e]; rfl
  | obj _ _ => unfold Rep at h; obtain ⟨a, _, _, _, e, _⟩ := h; rw [e]; rfl
  | cell _ => unfold Rep at h; obtain ⟨a, _, e⟩ := h; rw [e]; rfl
  | scr _ => unfold Rep at h; obtain ⟨a, _, e, _⟩ := h; rw [e]; rfl
theorem o_isN : Op2 X (compareOp .Is) oIsN := by
  intro κ G H S x y v u Q W w rx ry h
  unfold oIsN at h
  split at h
  · rw [rep_non ry]; exact wo_of op_isN ⟨rfl, h.okR w (by rw [isNon_rep rx]; exact repB _)⟩
  · exact h.elim
theorem o_notN : Op2 X (compareOp .IsNot) oNotN := by
  intro κ G H S x y v u Q W w rx ry h
  unfold oNotN at h
  split at h
  · rw [rep_non ry]; exact wo_of op_notN ⟨rfl, h.okR w (by rw [isNon_rep rx]; exact repB _)⟩
  · exact h.elim
/-! ### in -/
theorem flatV_rep {K : PySem.W.Frag} {mg : Str → Option Value} {κ : List Addr} {G : Hp} {x : Val} {v : V} (h : Rep K mg κ G x v) (f : flatB x = true) : flatV v = true := by
  cases x with
  | non => rw [rep_non h]; rfl
  | bl _ => rw [rep_bl h]; rfl
  | int _ => rw [rep_int h]; rfl
  | str _ => rw [rep_str h]; rfl
  | _ => cases f
theorem eqV_rep {K : PySem.W.Frag} {mg : Str → Option Value} {κ : List Addr} {G : Hp} {x y : Val} {v u : V} (h : Rep K mg κ G x v) (h' : Rep K mg κ G y u) (f : flatB x = true) (f' : flatB y = true) : eqV v u = eqB x y := by
  cases x with
  | non => rw [rep_non h]; cases y with
    | non => rw [rep_non h']; rfl
    | bl _ => rw [rep_bl h']; rfl
    | int _ => rw [rep_int h']; rfl
    | str _ => rw [rep_str h']; rfl
    | _ => cases f'
  | bl _ => rw [rep_bl h]; cases y with
    | non => rw [rep_non h']; rfl
    | bl _ => rw [rep_bl h']; rfl
    | int _ => rw [rep_int h']; rfl
    | str _ => rw [rep_str h']; rfl
    | _ => cases f'
  | int _ => rw [rep_int h]; cases y with
    | non => rw [rep_non h']; rfl
    | bl _ => rw [rep_bl h']; rfl
    | int _ => rw [rep_int h']; rfl
    | str _ => rw [rep_str h']; rfl
    | _ => cases f'
  | str _ => rw [rep_str h]; cases y with
    | non => rw [rep_non h']; rfl
    | bl _ => rw [rep_bl h']; rfl
    | int _ => rw [rep_int h']; rfl
    | str _ => rw [rep_str h']; rfl
    | _ => cases f'
  | _ => cases f
theorem flats_rep {K : PySem.W.Frag} {mg : Str → Option Value} {κ : List Addr} {G : Hp} {x : Val} {v : V} (h : Rep K mg κ G x v) (f : flatB x = true) : ∀ {ys : List Val} {us : List V}, RepL K mg κ G ys us → ys.all flatB = true → us.all flatV = true ∧ inV v us = ys.any fun y => eqB y x
  | [], _, t, _ => by unfold RepL at t; subst t; exact ⟨rfl, rfl⟩
  | y :: ys, _, t, q => by
    unfold RepL at t
    obtain ⟨u, r, e, h1, h2⟩ := t
    subst e
    rw [List.all_cons] at q
    obtain ⟨q1, q2⟩ := Bool.and_eq_true_iff.mp q
    obtain ⟨i1, i2⟩ := flats_rep h f h2 q2
    refine ⟨by rw [List.all_cons, flatV_rep h1 q1, i1]; rfl, ?_⟩
    show (eqV u v || inV v r) = _
    rw [eqV_rep h1 h q1 f, i2, List.any_cons]
def oIn : Val → Val → Res Val
  | x, .lst ys => inB x ys >>= fun b => .ok (.bl b)
  | x, .tup ys => if flatB x && ys.all flatB then .ok (.bl (ys.any fun y => eqB y x)) else .stuck
  | _, _ => .stuck
def oNotIn : Val → Val → Res Val
  | x, .lst ys => inB x ys >>= fun b => .ok (.bl (!b))
  | x, .tup ys => if flatB x && ys.all flatB then .ok (.bl (!(ys.any fun y => eqB y x))) else .stuck
  | _, _ => .stuck
section
variable {N : List Str} {sc : Scope} {k : Nat}
theorem o_in (c : Ctx X N sc k) : Op2 X (compareOp .In) oIn := by
  intro κ G H S x y v u Q W w rx ry h
  unfold oIn at h
  split at h
  · rename_i ys
    obtain ⟨a, vs, e, q, t⟩ := rep_lst ry
    subst e
    unfold inB at h
    split at h
    · rename_i hh
      obtain ⟨h1, h2⟩ := Bool.and_eq_true_iff.mp hh
      obtain ⟨i1, i2⟩ := flats_rep rx h1 t h2
      exact wo_of op_in_seq ⟨a, vs, rfl, .inl (.inl (.inl (w.le _ _ q))), flatV_rep rx h1, i1, Post.okR h w (by rw [← i2]; exact repB _)⟩
    · split at h
      · rename_i b hb
        unfold pdIn at hb
        split at hb
        · rename_i d ds hd hds
          split at hb
          · rename_i hh
            obtain ⟨h1, h2⟩ := Bool.and_eq_true_iff.mp hh
            cases hb
            exact wo_of (op_inD (by have := c.room.un; omega)) ⟨d, ds, dp_of w.le rx hd, .lst (.inl (.inl (w.le _ _ q))) (dps_of w.le t hds), h1, h2, Post.okR h w (repB _)⟩
          · cases hb
        · cases hb
      · exact h.elim
  · rename_i ys
    obtain ⟨a, vs, e, q, t⟩ := rep_tup ry
    subst e
    split at h
    · rename_i hh
      obtain ⟨h1, h2⟩ := Bool.and_eq_true_iff.mp hh
      obtain ⟨i1, i2⟩ := flats_rep rx h1 t h2
      exact wo_of op_in_seq ⟨a, vs, rfl, .inr (w.le.sqT q), flatV_rep rx h1, i1, h.okR w (by rw [← i2]; exact repB _)⟩
    · exact h.elim
  · exact h.elim
theorem o_notIn (c : Ctx X N sc k) : Op2 X (compareOp .NotIn) oNotIn := by
  intro κ G H S x y v u Q W w rx ry h
  unfold oNotIn at h
  split at h
  · rename_i ys
    obtain ⟨a, vs, e, q, t⟩ := rep_lst ry
    subst e
    unfold inB at h
    split at h
    · rename_i hh
      obtain ⟨h1, h2⟩ := Bool.and_eq_true_iff.mp hh
      obtain ⟨i1, i2⟩ := flats_rep rx h1 t h2
      exact wo_of op_notIn_seq ⟨a, vs, rfl, .inl (.inl (.inl (w.le _ _ q))), flatV_rep rx h1, i1, Post.okR h w (by rw [← i2]; exact repB _)⟩
    · split at h
      · rename_i b hb
        unfold pdIn at hb
        split at hb
        · rename_i d ds hd hds
          split at hb
          · rename_i hh
            obtain ⟨h1, h2⟩ := Bool.and_eq_true_iff.mp hh
            cases hb
            exact wo_of (op_notInD (by have := c.room.un; omega)) ⟨d, ds, dp_of w.le rx hd, .lst (.inl (.inl (w.le _ _ q))) (dps_of w.le t hds), h1, h2, Post.okR h w (repB _)⟩
          · cases hb
        · cases hb
      · exact h.elim
  · rename_i ys
    obtain ⟨a, vs, e, q, t⟩ := rep_tup ry
    subst e
    split at h
    · rename_i hh
      obtain ⟨h1, h2⟩ := Bool.and_eq_true_iff.mp hh
      obtain ⟨i1, i2⟩ := flats_rep rx h1 t h2
      exact wo_of op_notIn_seq ⟨a, vs, rfl, .inr (w.le.sqT q), flatV_rep rx h1, i1, h.okR w (by rw [← i2]; exact repB _)⟩
    · exact h.elim
  · exact h.elim
end
end
end Tv

/-! built-in functions on trees -/
namespace Tv
open PySem PySem.Spec PyProof.Rows L2

/-! ### sorted ints -/
def insI (i : Int) : List Int → List Int
  | [] => [i]
  | j :: js => if i ≤ j then i :: j :: js else j :: insI i js
def sortI : List Int → List Int
  | [] => []
  | i :: is => insI i (sortI is)
theorem insI_perm (i : Int) : ∀ js, (insI i js).Perm (i :: js)
  | [] => .refl _
  | j :: js => by
    unfold insI
    split
    · exact .refl _
    · exact ((insI_perm i js).cons j).trans (List.Perm.swap i j js)
theorem sortI_perm : ∀ is, (sortI is).Perm is
  | [] => .refl _
  | i :: is => (insI_perm i _).trans ((sortI_perm is).cons i)
theorem insI_sorted (i : Int) : ∀ {js : List Int}, js.Pairwise (· ≤ ·) → (insI i js).Pairwise (· ≤ ·)
  | [], _ => List.pairwise_singleton _ _
  | j :: js, h => by
    obtain ⟨h1, h2⟩ := List.pairwise_cons.mp h
    unfold insI
    split
    · rename_i hij
      refine List.pairwise_cons.mpr ⟨fun a ha => ?_, h⟩
      rcases List.mem_cons.mp ha with e | e
      · subst e; exact hij
      · exact Int.le_trans hij (h1 a e)
    · rename_i hij
      refine List.pairwise_cons.mpr ⟨fun a ha => ?_, insI_sorted i h2⟩
      rcases List.mem_cons.mp ((insI_perm i js).mem_iff.mp ha) with e | e
      · subst e; omega
      · exact h1 a e
theorem sortI_sorted : ∀ is, (sortI is).Pairwise (· ≤ ·)
  | [] => .nil
  | i :: is => insI_sorted i (sortI_sorted is)
theorem sorted_uniq : ∀ {as bs : List Int}, as.Perm bs → as.Pairwise (· ≤ ·) → bs.Pairwise (· ≤ ·) → as = bs
  | [], bs, p, _, _ => by rw [List.nil_perm.mp p]
  | a :: as, [], p, _, _ => absurd p.symm (by simp)
  | a :: as, b :: bs, p, h, h' => by
    obtain ⟨h1, h2⟩ := List.pairwise_cons.mp h
    obtain ⟨g1, g2⟩ := List.pairwise_cons.mp h'
    have e : a = b := by
      have m1 : a ∈ b :: bs := p.mem_iff.mp (by simp)
      have m2 : b ∈ a :: as := p.mem_iff.mpr (by simp)
      rcases List.mem_cons.mp m1 with e | e
      · exact e
      · rcases List.mem_cons.mp m2 with e' | e'
        · exact e'.symm
        · have := g1 a e
          have := h1 b e'
          omega
    subst e
    rw [sorted_uniq (List.Perm.cons_inv p) h2 g2]
theorem sorted_eq {as bs : List Int} (p : as.Perm bs) (h : as.Pairwise (· ≤ ·)) : as = sortI bs := sorted_uniq (p.trans (sortI_perm bs).symm) h (sortI_sorted bs)
/-! ### greatest, least -/
def maxI : Int → List Int → Int
  | i, [] => i
  | i, j :: js => maxI (if j > i then j else i) js
def minI : Int → List Int → Int
  | i, [] => i
  | i, j :: js => minI (if j < i then j else i) js
theorem maxI_mem : ∀ (i : Int) (js : List Int), maxI i js ∈ i :: js
  | i, [] => by simp [maxI]
  | i, j :: js => by
    unfold maxI
    have := maxI_mem (if j > i then j else i) js
    rcases List.mem_cons.mp this with e | e
    · rw [e]; split <;> simp
    · simp [e]
theorem maxI_ge : ∀ (i : Int) (js : List Int), ∀ y ∈ i :: js, y ≤ maxI i js
  | i, [], y, h => by simp at h; subst h; exact Int.le_refl _
  | i, j :: js, y, h => by
    unfold maxI
    have ih := maxI_ge (if j > i then j else i) js
    have h0 := ih _ List.mem_cons_self
    have hy : ∀ z, z = i ∨ z = j → z ≤ (if j > i then j else i) := fun z hz => by split <;> (rcases hz with e | e <;> subst e <;> omega)
    rcases List.mem_cons.mp h with e | e
    · have := hy y (.inl e); omega
    · rcases List.mem_cons.mp e with e | e
      · have := hy y (.inr e); omega
      · exact ih y (List.mem_cons_of_mem _ e)
theorem minI_mem : ∀ (i : Int) (js : List Int), minI i js ∈ i :: js
  | i, [] => by simp [minI]
  | i, j :: js => by
    unfold minI
    have := minI_mem (if j < i then j else i) js
    rcases List.mem_cons.mp this with e | e
    · rw [e]; split <;> simp
    · simp [e]
theorem minI_le : ∀ (i : Int) (js : List Int), ∀ y ∈ i :: js, minI i js ≤ y
  | i, [], y, h => by simp at h; subst h; exact Int.le_refl _
  | i, j :: js, y, h => by
    unfold minI
    have ih := minI_le (if j < i then j else i) js
    have h0 := ih _ List.mem_cons_self
    have hy : ∀ z, z = i ∨ z = j → (if j < i then j else i) ≤ z := fun z hz => by split <;> (rcases hz with e | e <;> subst e <;> omega)
    rcases List.mem_cons.mp h with e | e
    · have := hy y (.inl e); omega
    · rcases List.mem_cons.mp e with e | e
      · have := hy y (.inr e); omega
      · exact ih y (List.mem_cons_of_mem _ e)

/-! ### the functions -/
def fLen : List Val → Res Val
  | [.str x] => if x.length ≤ sizeLine then .ok (.int x.length) else .stuck
  | [.lst xs] => .ok (.int xs.length)
  | [.tup xs] => .ok (.int xs.length)
  | [.scr xs] => .ok (.int xs.length)
  | [.dic xs] => .ok (.int xs.length)
  | _ => .stuck
def fAbs : List Val → Res Val
  | [.int i] => .ok (.int (if i < 0 then -i else i))
  | _ => .stuck
def fInt : List Val → Res Val
  | [.int i] => .ok (.int i)
  | [.bl b] => .ok (.int (if b then 1 else 0))
  | _ => .stuck
def fDivmod : List Val → Res Val
  | [.int i, .int j] => if 0 < j ∧ j < 1073741824 then .ok (.tup [.int (i / j), .int (i % j)]) else .stuck
  | _ => .stuck
def fSum : List Val → Res Val
  | [.lst xs] => match intsV xs with
    | some ns => .ok (.int ns.sum)
    | none => .stuck
  | _ => .stuck
def fMax : List Val → Res Val
  | [.int i, .int j] => .ok (.int (if j > i then j else i))
  | [.lst xs] => match intsV xs with
    | some (n :: ns) => .ok (.int (maxI n ns))
    | _ => .stuck
  | _ => .stuck
def fMin : List Val → Res Val
  | [.int i, .int j] => .ok (.int (if j < i then j else i))
  | [.lst xs] => match intsV xs with
    | some (n :: ns) => .ok (.int (minI n ns))
    | _ => .stuck
  | _ => .stuck
def fAll : List Val → Res Val
  | [.lst xs] => match boolsV xs with
    | some bs => .ok (.bl (bs.all id))
    | none => .stuck
  | _ => .stuck
def fAny : List Val → Res Val
  | [.lst xs] => match boolsV xs with
    | some bs => .ok (.bl (bs.any id))
    | none => .stuck
  | _ => .stuck
def fSorted : List Val → Res Val
  | [.lst xs] => match intsV xs with
    | some ns => .ok (.lst ((sortI ns).map .int))
    | none => .stuck
  | _ => .stuck
def fTuple : List Val → Res Val
  | [.lst xs] => .ok (.tup xs)
  | [.tup xs] => .ok (.tup xs)
  | _ => .stuck
def fList : List Val → Res Val
  | [.lst xs] => .ok (.lst xs)
  | [.tup xs] => .ok (.lst xs)
  | _ => .stuck
def okRepr (d : PyData) : Bool := d.showable && !d.hasDict && decide (d.depth ≤ 64) && decide (d.shown.length ≤ sizeLine)
def fRepr : List Val → Res Val
  | [.lst xs] => match toPD (.lst xs) with
    | some d => if okRepr d = true then .ok (.str d.shown) else .stuck
    | none => .stuck
  | [.tup xs] => match toPD (.tup xs) with
    | some d => if okRepr d = true then .ok (.str d.shown) else .stuck
    | none => .stuck
  | _ => .stuck

section
variable {X : Cx} {N : List Str} {sc : Scope} {k : Nat}
theorem f_len : OpN X (.builtin "len") fLen := by
  intro κ G H S xs vs Q W w r h
  unfold fLen at h
  split at h
  · obtain ⟨v, e, rv⟩ := repL1 r
    subst e
    rw [rep_str rv]
    split at h
    · exact wc_of call_len ⟨_, _, rfl, ⟨by assumption, rfl⟩, h.okR w (repI _)⟩
    · exact h.elim
  · obtain ⟨v, e, rv⟩ := repL1 r
    obtain ⟨a, us, e2, q, t⟩ := rep_lst rv
    subst e e2
    exact wc_of call_len ⟨_, _, rfl, .inl ⟨us, .inl (.inl (w.le _ _ q)), rfl⟩, h.okR w (by rw [t.length]; exact repI _)⟩
  · obtain ⟨v, e, rv⟩ := repL1 r
    obtain ⟨a, us, e2, q, t⟩ := rep_tup rv
    subst e e2
    exact wc_of call_len ⟨_, _, rfl, .inr ⟨us, w.le.sqT q, rfl⟩, h.okR w (by rw [t.length]; exact repI _)⟩
  · obtain ⟨v, e, rv⟩ := repL1 r
    obtain ⟨a, us, e2, q, t⟩ := rep_scr rv
    subst e e2
    exact wc_of call_len ⟨_, _, rfl, .inl ⟨us, w.le.sqL q, rfl⟩, h.okR w (by rw [t.length]; exact repI _)⟩
  · obtain ⟨v, e, rv⟩ := repL1 r
    unfold Rep at rv
    obtain ⟨a, ds, e2, q, t⟩ := rv
    subst e e2
    intro pins s σ us I r
    obtain ⟨u, e, ru⟩ := vals1 r
    subst e
    obtain rfl : u = Value.ref a := ru
    exact d_len I (w.le.rd q) fun tk s' I' => ⟨.int ds.length, H, I', ⟨tk, rfl⟩, h.okR w (by rw [t.length]; exact repI _)⟩
  · exact h.elim
theorem f_abs : OpN X (.builtin "abs") fAbs := by
  intro κ G H S xs vs Q W w r h
  unfold fAbs at h
  split at h
  · obtain ⟨v, e, rv⟩ := repL1 r
    rw [e, rep_int rv]
    exact wc_of call_abs ⟨_, rfl, h.okR w (repI _)⟩
  · exact h.elim
theorem f_int : OpN X (.type "int") fInt := by
  intro κ G H S xs vs Q W w r h
  unfold fInt at h
  split at h
  · obtain ⟨v, e, rv⟩ := repL1 r
    rw [e, rep_int rv]
    exact wc_of call_int1 (.inl ⟨_, rfl, h.okR w (repI _)⟩)
  · obtain ⟨v, e, rv⟩ := repL1 r
    rw [e, rep_bl rv]
    exact wc_of call_int1 (.inr ⟨_, rfl, h.okR w (repI _)⟩)
  · exact h.elim
theorem f_divmod : OpN X (.builtin "divmod") fDivmod := by
  intro κ G H S xs vs Q W w r h
  unfold fDivmod at h
  split at h
  · split at h
    · obtain ⟨v, u, e, rv, ru⟩ := repL2 r
      rw [e, rep_int rv, rep_int ru]
      exact wc_of call_divmod ⟨_, _, rfl, by assumption, fun p hp => new_tup w hp (.cons (repI _) (.cons (repI _) .nil)) h⟩
    · exact h.elim
  · exact h.elim
theorem f_sum (c : Ctx X N sc k) : OpN X (.builtin "sum") fSum := by
  intro κ G H S xs vs Q W w r h
  unfold fSum at h
  split at h
  · split at h
    · rename_i hn
      obtain ⟨v, e, rv⟩ := repL1 r
      obtain ⟨a, us, e2, q, t⟩ := rep_lst rv
      subst e e2
      have := ints_rep hn t
      subst this
      exact wc_of (cr_sum c.calm) ⟨_, _, rfl, .inl (.inl (w.le _ _ q)), h.okR w (repI _)⟩
    · exact h.elim
  · exact h.elim
theorem f_max (c : Ctx X N sc k) : OpN X (.builtin "max") fMax := by
  intro κ G H S xs vs Q W w r h
  unfold fMax at h
  split at h
  · obtain ⟨v, u, e, rv, ru⟩ := repL2 r
    rw [e, rep_int rv, rep_int ru]
    exact wc_of (call_max2 c.calm) ⟨_, _, rfl, h.okR w (repI _)⟩
  · split at h
    · rename_i n ns hn
      obtain ⟨v, e, rv⟩ := repL1 r
      obtain ⟨a, us, e2, q, t⟩ := rep_lst rv
      subst e e2
      have := ints_rep hn t
      subst this
      refine wc_of (cr_max c.calm) ⟨_, _, rfl, .inl (.inl (w.le _ _ q)), by simp, fun m hm hge => ?_⟩
      have e : m = maxI n ns := Int.le_antisymm (maxI_ge n ns m hm) (hge _ (maxI_mem n ns))
      rw [e]
      exact h.okR w (repI _)
    · exact h.elim
  · exact h.elim
theorem f_min (c : Ctx X N sc k) : OpN X (.builtin "min") fMin := by
  intro κ G H S xs vs Q W w r h
  unfold fMin at h
  split at h
  · obtain ⟨v, u, e, rv, ru⟩ := repL2 r
    rw [e, rep_int rv, rep_int ru]
    exact wc_of (call_min2 c.calm) ⟨_, _, rfl, h.okR w (repI _)⟩
  · split at h
    · rename_i n ns hn
      obtain ⟨v, e, rv⟩ := repL1 r
      obtain ⟨a, us, e2, q, t⟩ := rep_lst rv
      subst e e2
      have := ints_rep hn t
      subst this
      refine wc_of (cr_min c.calm) ⟨_, _, rfl, .inl (.inl (w.le _ _ q)), by simp, fun m hm hge => ?_⟩
      have e : m = minI n ns := Int.le_antisymm (hge _ (minI_mem n ns)) (minI_le n ns m hm)
      rw [e]
      exact h.okR w (repI _)
    · exact h.elim
  · exact h.elim
theorem f_all (c : Ctx X N sc k) : OpN X (.builtin "all") fAll := by
  intro κ G H S xs vs Q W w r h
  unfold fAll at h
  split at h
  · split at h
    · rename_i hn
      obtain ⟨v, e, rv⟩ := repL1 r
      obtain ⟨a, us, e2, q, t⟩ := rep_lst rv
      subst e e2
      have := bools_rep hn t
      subst this
      exact wc_of (cr_all c.calm) ⟨_, _, rfl, .inl (.inl (w.le _ _ q)), h.okR w (repB _)⟩
    · exact h.elim
  · exact h.elim
theorem f_any (c : Ctx X N sc k) : OpN X (.builtin "any") fAny := by
  intro κ G H S xs vs Q W w r h
  unfold fAny at h
  split at h
  · split at h
    · rename_i hn
      obtain ⟨v, e, rv⟩ := repL1 r
      obtain ⟨a, us, e2, q, t⟩ := rep_lst rv
      subst e e2
      have := bools_rep hn t
      subst this
      exact wc_of (cr_any c.calm) ⟨_, _, rfl, .inl (.inl (w.le _ _ q)), h.okR w (repB _)⟩
    · exact h.elim
  · exact h.elim
theorem f_sorted : OpN X (.builtin "sorted") fSorted := by
  intro κ G H S xs vs Q W w r h
  unfold fSorted at h
  split at h
  · split at h
    · rename_i hn
      obtain ⟨v, e, rv⟩ := repL1 r
      obtain ⟨a, us, e2, q, t⟩ := rep_lst rv
      subst e e2
      have := ints_rep hn t
      subst this
      refine wc_of cr_sortedI ⟨_, _, rfl, .inl (.inl (w.le _ _ q)), fun ns' p h1 h2 hp => ?_⟩
      rw [sorted_eq h1 h2]
      exact new_lst w hp (rep_ints _) h
    · exact h.elim
  · exact h.elim
theorem f_tuple : OpN X (.type "tuple") fTuple := by
  intro κ G H S xs vs Q W w r h
  unfold fTuple at h
  split at h
  · obtain ⟨v, e, rv⟩ := repL1 r
    obtain ⟨a, us, e2, q, t⟩ := rep_lst rv
    subst e e2
    exact wc_of call_tuple_of ⟨_, us, rfl, .inl ⟨.inl (.inl (w.le _ _ q)), fun l hl => new_tup w hl t h⟩⟩
  · obtain ⟨v, e, rv⟩ := repL1 r
    obtain ⟨a, us, e2, q, t⟩ := rep_tup rv
    subst e
    exact wc_of call_tuple_of ⟨a, us, by rw [e2], .inr ⟨w.le.sqT q, by rw [← e2]; exact h.okR w rv⟩⟩
  · exact h.elim
theorem f_list : OpN X (.type "list") fList := by
  intro κ G H S xs vs Q W w r h
  unfold fList at h
  split at h
  · obtain ⟨v, e, rv⟩ := repL1 r
    obtain ⟨a, us, e2, q, t⟩ := rep_lst rv
    subst e e2
    exact wc_of call_list_of ⟨_, us, rfl, .inl (.inl (.inl (w.le _ _ q))), fun l hl => new_lst w hl t h⟩
  · obtain ⟨v, e, rv⟩ := repL1 r
    obtain ⟨a, us, e2, q, t⟩ := rep_tup rv
    subst e e2
    exact wc_of call_list_of ⟨_, us, rfl, .inr (w.le.sqT q), fun l hl => new_lst w hl t h⟩
  · exact h.elim
theorem repr_pd (c : Ctx X N sc k) {κ : List Addr} {G H : Hp} {S : Cells} {x : Val} {v : V} {d : PyData} {Q : VK} {W : Value → Option Addr → Hp → Prop} (w : Wd X.K X.mg κ G H S) (rv : Rep X.K X.mg κ G x v) (hv : ∃ a, v = .ref a) (hd : toPD x = some d) (ho : okRepr d = true)
    (h : Post X.K X.mg true (Rep X.K X.mg) κ G H S (lift (.ok (.str d.shown)) S) Q W) : WC X (.builtin "repr") [v] H Q := by
  intro pins s σ us I r
  unfold okRepr at ho
  simp only [Bool.and_eq_true, decide_eq_true_eq, Bool.not_eq_true'] at ho
  obtain ⟨⟨⟨h1, h2⟩, h3⟩, h4⟩ := ho
  obtain ⟨u, e, ru⟩ := vals1 r
  subst e
  obtain ⟨as, rd⟩ := Dp.reads I d v u (dp_of w.le rv hd) ru
  obtain ⟨a, ea⟩ := hv
  subst ea
  obtain rfl : u = Value.ref a := ru
  refine repr_of_reads' rd h1 (PyData.noDict_hsm h2) c.gd (by have := c.room.un; omega) (fun _ _ e => e) (fun h' u tk hk => ?_) h4
  exact ⟨.str d.shown, H, I.kept hk, ⟨u, rfl⟩, h.okR w (repS _)⟩
theorem f_repr (c : Ctx X N sc k) : OpN X (.builtin "repr") fRepr := by
  intro κ G H S xs vs Q W w r h
  unfold fRepr at h
  split at h
  · split at h
    · split at h
      · obtain ⟨v, e, rv⟩ := repL1 r
        obtain ⟨a, us, e2, q, t⟩ := rep_lst rv
        subst e
        exact repr_pd c w rv ⟨a, e2⟩ (by assumption) (by assumption) h
      · exact h.elim
    · exact h.elim
  · split at h
    · split at h
      · obtain ⟨v, e, rv⟩ := repL1 r
        obtain ⟨a, us, e2, q, t⟩ := rep_tup rv
        subst e
        exact repr_pd c w rv ⟨a, e2⟩ (by assumption) (by assumption) h
      · exact h.elim
    · exact h.elim
  · exact h.elim
end
/-! ### subscripts -/
def ixV (xs : List Val) (i : Int) : Res Val := match L2.atI xs i with
  | some x => .ok x
  | none => .stuck
def oIx : Val → Val → Res Val
  | .lst xs, .int i => ixV xs i
  | .tup xs, .int i => ixV xs i
  | .scr xs, .int i => ixV xs i
  | .str x, .int i => if x.length ≤ sizeLine then match L2.atI x.cps.toList i with
    | some c => .ok (.str ⟨#[c]⟩)
    | none => .stuck else .stuck
  | _, _ => .stuck
theorem atI_rep {K : PySem.W.Frag} {mg : Str → Option Value} {κ : List Addr} {G : Hp} {xs : List Val} {vs : List V} {i : Int} {x : Val} (t : RepL K mg κ G xs vs) (h : L2.atI xs i = some x) : ∃ v, L2.atI vs i = some v ∧ Rep K mg κ G x v := by
  unfold L2.atI at h ⊢
  rw [t.length]
  cases q : L2.ixN xs.length i with
  | none => rw [q] at h; cases h
  | some j =>
    rw [q] at h
    exact t.get (i := j) h
section
variable {X : Cx} {N : List Str} {sc : Scope} {k : Nat} {E : Env} {m : Type → Type} [Mon m]
theorem ev_ix {a b : Expr} {pos : Pos} {ra rb : m Val} (hs : PlainIx b) (ha : Ev X E a ra) (hb : Ev X E b rb) : Ev X E (.Subscript a b pos) (ra >>= fun x => rb >>= fun y => Mon.of (oIx x y)) := by
  refine ev_sub ix_seq (fun κ G H S x y v u Q W w rx ry h => ?_) hs ha hb
  unfold oIx at h
  split at h
  · unfold ixV at h
    split at h
    · rename_i hq
      obtain ⟨a, vs, e, q, t⟩ := rep_lst rx
      subst e
      rw [rep_int ry]
      obtain ⟨z, hz, rz⟩ := atI_rep t hq
      exact .inl ⟨a, vs, _, z, rfl, rfl, .inl (.inl (w.le _ _ q)), hz, h.okR w rz⟩
    · exact h.elim
  · unfold ixV at h
    split at h
    · rename_i hq
      obtain ⟨a, vs, e, q, t⟩ := rep_tup rx
      subst e
      rw [rep_int ry]
      obtain ⟨z, hz, rz⟩ := atI_rep t hq
      exact .inr (.inl ⟨a, vs, _, z, rfl, rfl, w.le.sqT q, hz, h.okR w rz⟩)
    · exact h.elim
  · unfold ixV at h
    split at h
    · rename_i hq
      obtain ⟨a, vs, e, q, t⟩ := rep_scr rx
      subst e
      rw [rep_int ry]
      obtain ⟨z, hz, rz⟩ := atI_rep t hq
      exact .inl ⟨a, vs, _, z, rfl, rfl, w.le.sqL q, hz, h.okR w rz⟩
    · exact h.elim
  · split at h
    · split at h
      · rw [rep_str rx, rep_int ry]
        exact .inr (.inr ⟨_, _, _, rfl, rfl, by assumption, by assumption, h.okR w (repS _)⟩)
      · exact h.elim
    · exact h.elim
  · exact h.elim
/-! ### x = -y -/
def oNeg : Val → Res Val
  | .int i => .ok (.int (-i))
  | _ => .stuck
theorem ev_neg {a : Expr} {pos : Pos} {ra : m Val} (ha : Ev X E a ra) : Ev X E (.UnaryOp .USub a pos) (ra >>= fun x => Mon.of (oNeg x)) := by
  intro B0 S κ G σ H sat W tk Q h
  refine we_of (pe_un un_neg pe_self) ?_
  refine ha B0 S κ G σ H sat W tk _ (bindW h fun x v κ1 G1 H1 S1 e1 r1 h1 => ?_)
  have h2 := h1.ofOk
  unfold oNeg at h2
  split at h2
  · rw [rep_int r1]
    exact ⟨_, rfl, h2.okR e1.e.w (repI _)⟩
  · exact h2.elim
/-! ### isinstance(x, T), T a built-in type -/
def tyName : Val → Option String
  | .non => some "NoneType"
  | .bl _ => some "bool"
  | .int _ => some "int"
  | .str _ => some "str"
  | .tup _ => some "tuple"
  | .lst _ => some "list"
  | .dic _ => some "dict"
  | _ => none
def tyTab (T : String) : String → Option Bool := fun t => if t == T then some true else
  if t == "bool" && T == "int" then some true else if ["NoneType", "bool", "int", "str", "tuple", "list", "dict"].contains t && ["bool", "int", "str", "tuple", "list", "dict"].contains T then some false else none
def fIsB (T : String) (x : Val) : Res Val := match (tyName x).bind (tyTab T) with
  | some b => .ok (.bl b)
  | none => .stuck
theorem tyX_of {K : PySem.W.Frag} {mg : Str → Option Value} {κ : List Addr} {G H : Hp} (l : Le G H) {x : Val} {v : V} {t : String} (r : Rep K mg κ G x v) (h : tyName x = some t) : TyX K H v (.type t) := by
  cases x with
  | non => cases h; rw [rep_non r]; exact .base .non
  | bl _ => cases h; rw [rep_bl r]; exact .base (.bl _)
  | int _ => cases h; rw [rep_int r]; exact .base (.int _)
  | str _ => cases h; rw [rep_str r]; exact .base (.str _)
  | lst _ => cases h; obtain ⟨a, vs, e, q, _⟩ := rep_lst r; rw [e]; exact .base (.lst (l _ _ q))
  | tup _ =>
    cases h
    obtain ⟨a, vs, e, q, _⟩ := rep_tup r
    rw [e]
    rcases q with (q | ⟨o, q⟩) | ⟨o, its, n, q, c, _⟩
    · exact .base (.tup (l _ _ q))
    · exact .fTuple (l _ _ q)
    · exact .kTuple q c
  | dic _ =>
    cases h
    unfold Rep at r
    obtain ⟨a, vs, e, q, _⟩ := r
    rw [e]
    rcases q with q | ⟨o, q⟩
    · exact .base (.dK (l _ _ q))
    · exact .fDict (l _ _ q)
  | _ => cases h
theorem kit_tab (K : PySem.W.Frag) {t T : String} {b : Bool} (h : tyTab T t = some b) (ht : ["NoneType", "bool", "int", "str", "tuple", "list", "dict"].contains t = true) (hT : ["bool", "int", "str", "tuple", "list", "dict"].contains T = true) : PySem.W.kitOne K (.type t) (.type T) = some b := by
  simp only [List.contains_cons, List.contains_nil, Bool.or_false, Bool.or_eq_true, beq_iff_eq] at ht hT
  rcases ht with rfl | rfl | rfl | rfl | rfl | rfl | rfl <;> rcases hT with rfl | rfl | rfl | rfl | rfl | rfl <;> (have e := h; simp [tyTab] at e; subst e; kernel_rfl)
end
end Tv

/-! sorted(set(xs)), xs a list of ints -/
namespace Tv
open PySem PySem.Spec PyProof.Rows L2

section
variable {P : Program} {w : World} {A : Around} {E : Value → Shared → Prop} {s : Shared}
/-- the empty set that comes first -/
abbrev noSet (w : World) : Obj := { cls := .type "set", dict := none, data := .set #[] 0 (.fresh 0 0 (!w.params.followText "set-order")) }
/-- what is known of the set once it is filled from ns -/
def Filled (w : World) (s : Shared) (ns : List Int) (s2 : Shared) : Prop :=
  ∃ h' tk c, s2 = { s with heap := h', toks := tk } ∧ SetR w h' s.heap.objs.size (fun j => decide (j ∈ ns)) c ∧ ∀ b o, s.heap.get? b = some o → h'.get? b = some o
set_option maxHeartbeats 3200000 in
theorem set_init_list {l : Addr} {items : Array Value} (ns : List Int) (hh : A.handled = none) (hl : s.heap.IsList l items) (hit : IntsAre items.toList ns) (hb : ns.length + 1 < scanBound) :
    wpAny (model P w) A (Builtin.«set.__init__» ⟨[.ref s.heap.objs.size, .ref l], []⟩) (fun fin s2 => ∃ v, fin = .done (.ret v) ∧ v = .none ∧ Filled w s ns s2) E { s with heap := s.heap.push (noSet w) } := by
  have isz : items.size = ns.length := by
    have q := IntsAre.length hit
    rwa [Array.length_toList] at q
  have hS : (s.heap.push (noSet w)).get? s.heap.objs.size = some (noSet w) := Heap.get?_push_size _ rfl
  have hl1 : (s.heap.push (noSet w)).IsList l items := hl.at fun o e => Heap.get?_push_of_some _ e
  obtain ⟨⟨c, d, dt, sl⟩, ho, hc, n, hd⟩ := id hl1
  replace hc : c = .type "list" := hc
  replace hd : dt = .seq items n := hd
  subst hc hd
  have lS : l < s.heap.objs.size := by
    obtain ⟨o, e, _⟩ := hl
    exact Heap.lt_size e
  have hT : Shared.TypeIs { s with heap := s.heap.push (noSet w) } (.ref s.heap.objs.size) "set" := ⟨_, hS, rfl⟩
  have k1 := F.sub_list_set
  have k2 := F.sub_list_frozenset
  have k3 : (Value.type "list" == Value.type "dict") = false := by decide
  unfold Builtin.«set.__init__» noKeywords Builtin.Frozenset.updateFrom
  generalize hPI : pyIter = PI
  wp_walk
  subst hPI
  refine wpAny_pyIter_list hl1 ?_
  refine wpAny_bind (wpAny_runValue ?_)
  have zS : (s.heap.push (noSet w)).objs.size = s.heap.objs.size + 1 := Heap.size_push ..
  have lI : l ≠ (s.heap.push (noSet w)).objs.size := by rw [zS]; exact Nat.ne_of_lt (Nat.lt_succ_of_lt lS)
  have sF : s.heap.objs.size ∉ [(s.heap.push (noSet w)).objs.size, l] := by
    rw [zS]
    intro z
    rcases List.mem_cons.mp z with z | z
    · exact absurd z (Nat.ne_of_lt (Nat.lt_succ_self _))
    · exact absurd (List.mem_singleton.mp z) (Nat.ne_of_gt lS)
  have val : ∀ (i : Nat) (v : Value), items[i]? = some v → ∃ k t, ns[i]? = some k ∧ v = .int k t := fun i v hv => by
    have hi : i < ns.length := by rw [← isz]; exact (Array.getElem?_eq_some_iff.mp hv).1
    obtain ⟨t, e⟩ := PyProof.Rows.IntsAre.int_at hit i v (by rw [Array.getElem?_toList]; exact hv)
    have e2 : ns.getD i 0 = ns[i] := by rw [List.getD_eq_getElem?_getD, List.getElem?_eq_getElem hi]; rfl
    exact ⟨ns[i], t, List.getElem?_eq_getElem hi, by rw [e, e2]⟩
  refine set_update_ints ((Walks.list (by simp [hh]) _ l lI items).toS) s.heap.objs.size sF ns isz hb val (items.size - 0) 0 _ (by omega) (Nat.zero_le _) ⟨⟨_, Heap.get?_push_size _ rfl, rfl, rfl⟩, hl1.at fun o e => Heap.get?_push_of_some _ e⟩ ⟨0, Nat.le_refl 0, setR_new_at (Heap.get?_push_of_some _ hS)⟩ fun s' c mv _ hS' => ?_
  obtain ⟨h', g', d', tk', os'⟩ := s'
  have eg : g' = s.gens := mv.gens
  have ed : d' = s.drawn := mv.drawn
  have eo : os' = s.os := mv.os
  subst eg ed eo
  refine wpAny_pure (wpAny_pure ⟨_, rfl, rfl, h', tk', c, rfl, hS', fun b o e => ?_⟩)
  have b0 : b < s.heap.objs.size := Heap.lt_size e
  refine mv.heap b o (fun z => ?_) (Heap.get?_push_of_some _ (Heap.get?_push_of_some _ e))
  rcases List.mem_cons.mp z with z | z
  · exact absurd z (Nat.ne_of_lt b0)
  · have z := List.mem_singleton.mp z
    rw [zS] at z
    exact absurd z (Nat.ne_of_lt (Nat.lt_succ_of_lt b0))
/-- set(xs) -/
theorem call_set_ints {l : Addr} {items : Array Value} (ns : List Int) {Q : Value → Shared → Prop} (hh : A.handled = none) (hl : s.heap.IsList l items) (hit : IntsAre items.toList ns) (hb : ns.length + 1 < scanBound)
    (h : ∀ s2, Filled w s ns s2 → Q (.ref s.heap.objs.size) s2) : wpAny (model P w) A (call (.type "set") [.ref l]) Q E s := by
  obtain ⟨c, tl, hmro⟩ := F.called_set.mro
  have hmade := F.called_set.made
  have hsub := F.called_set.sub
  refine wpAny_call (codeAny_of_tree ?_)
  show wpAny _ _ (callAny (.type "set") _) _ _ _
  refine wpAny_pure ⟨Code.quiet_builtin _ (by decide +kernel), codeAny_builtin F.entry_type_call ?_⟩
  rw [Around.under_plain (weight_type_call_type "set" [.ref l] []) rfl]
  have h1 := F.called_set.notType
  have h2 := F.called_set.canCreate
  have hct := F.typeCall_set_1 (.ref l)
  repeat (any_goals (first | assumption | wp_step))
  refine codeAny_mono (code_set_led1 (w := w) (.ref l) (E := E) (Q₁ := fun obj s₁ => obj = .ref s.heap.objs.size ∧ s₁ = { s with heap := s.heap.push (noSet w) }) ⟨rfl, rfl⟩) fun r s₁ hr => ?_
  cases r with
  | error e => exact hr
  | ok fl =>
    cases fl with
    | ret obj =>
      obtain ⟨rfl, rfl⟩ := hr
      have hS : (s.heap.push (noSet w)).get? s.heap.objs.size = some (noSet w) := Heap.get?_push_size _ rfl
      have hT : Shared.TypeIs { s with heap := s.heap.push (noSet w) } (.ref s.heap.objs.size) "set" := ⟨_, hS, rfl⟩
      have hli := F.called_set.init.lookup
      have hbi := F.called_set.init.bind (.ref s.heap.objs.size)
      repeat (any_goals (first | assumption | wp_step))
      refine codeAny_mono (codeAny_call_builtin (R := wants (fun r s2 => r = .none ∧ Filled w s ns s2) E) F.called_set.init.plain F.entry_set_init (check_set_init_1 hT ?_)) fun r2 s2 hr2 => ?_
      · refine wpAny_mono (set_init_list (P := P) (w := w) (s := s) (E := E) ns (by simp [hh]) hl hit hb) (fun fin s2 hf => ?_) fun e s2 hf => hf
        obtain ⟨v, e, e2, fl⟩ := hf
        subst e
        exact ⟨e2, fl⟩
      · cases r2 with
        | error e => exact hr2
        | ok f2 =>
          cases f2 with
          | ret r =>
            obtain ⟨rfl, fl⟩ := hr2
            repeat (any_goals (first | assumption | wp_step))
            exact h _ fl
          | next => exact hr2.elim
          | brk => exact hr2.elim
          | cont => exact hr2.elim
    | next => exact hr.elim
    | brk => exact hr.elim
    | cont => exact hr.elim
end
end Tv

/-! isinstance, chains, stars, slices -/
namespace Tv
open PySem PySem.Spec PyProof.Rows L2

/-! ### t[::-1], t a tuple -/
section
variable {prog : Program} {w : World} {A : Around} {E : Value → Shared → Prop} {s : Shared}
theorem revPick (xs : Array Value) : ((List.range xs.size).filterMap fun (k : Nat) => xs[(((xs.size : Int) - 1) + (k : Int) * (-1)).toNat]?).toArray = xs.toList.reverse.toArray := by
  congr 1
  apply List.ext_getElem?
  intro i
  have e : (fun (k : Nat) => xs[(((xs.size : Int) - 1) + (k : Int) * (-1)).toNat]?) = fun k => xs[xs.size - 1 - k]? := by
    funext k
    have : (((xs.size : Int) - 1) + (k : Int) * (-1)).toNat = xs.size - 1 - k := by omega
    rw [this]
  rw [e]
  have e2 : (List.range xs.size).filterMap (fun k => xs[xs.size - 1 - k]?) = ((List.range xs.size).map fun k => xs.size - 1 - k).filterMap (xs[·]?) := by
    rw [List.filterMap_map]
    rfl
  rw [e2, PySem.W.krv_range, List.filterMap_reverse, PySem.W.krv_all]
theorem sliceApplied_rev {sl : Addr} {n : Nat} {u : Tok} {Q : Int × Int × Nat → Shared → Prop} (hs : s.heap.IsSliceOf sl .none .none (.int (-1) u))
    (h : Q ((n : Int) - 1, -1, n) s) : wpAny (model prog w) A (Builtin.Slice.sliceApplied (.ref sl) (pure (n : Int))) Q E s := by
  obtain ⟨os, hos, hcs, hds⟩ := id hs
  unfold Builtin.Slice.sliceApplied Builtin.Slice.sliceFields
  refine wpAny_bind (wpAny_bind (wpAny_field hos hds (x := .none) rfl (wpAny_bind (wpAny_field hos hds (x := .none) rfl (wpAny_bind (wpAny_field hos hds (x := .int (-1) u) rfl (wpAny_pure ?_)))))))
  refine wpAny_bind (slicePart_int ?_)
  show wpAny _ _ (if ((-1 : Int) == 0) = true then _ else _) _ _ s
  rw [if_neg (by decide)]
  refine wpAny_bind (slicePart_none (wpAny_bind (slicePart_none (wpAny_bind (wpAny_pure ?_)))))
  refine wpAny_pure ?_
  have e : Builtin.Slice.slicePlaces ((n : Int) - 1) (-1) (-1) = n := by
    unfold Builtin.Slice.slicePlaces
    rw [if_neg (by decide)]
    by_cases z : (n : Int) - 1 > -1
    · rw [if_pos z, show (-(-1) : Int) = 1 from rfl, Int.ediv_one]
      omega
    · rw [if_neg z]
      omega
  have e2 : Builtin.Slice.sliceAdjust none none (-1) (n : Int) = ((n : Int) - 1, -1) := rfl
  show Q ((Builtin.Slice.sliceAdjust none none (-1) (n : Int)).1, -1, Builtin.Slice.slicePlaces (Builtin.Slice.sliceAdjust none none (-1) (n : Int)).1 (Builtin.Slice.sliceAdjust none none (-1) (n : Int)).2 (-1)) s
  rw [e2]
  show Q ((n : Int) - 1, -1, Builtin.Slice.slicePlaces ((n : Int) - 1) (-1) (-1)) s
  rw [e]
  exact h
theorem getItem_tuple_rev {t sl : Addr} {items : Array Value} {u : Tok} {Q : Value → Shared → Prop} (ht : IsTup s.heap t items) (hs : s.heap.IsSliceOf sl .none .none (.int (-1) u))
    (h : Q (.ref s.heap.objs.size) { s with heap := s.heap.push { cls := .type "tuple", data := .seq items.toList.reverse.toArray } }) (hsz : items.size ≤ sizeLine) : wpAny (model prog w) A (getItem (.ref t) (.ref sl)) Q E s := by
  have htake : sizeOk (.seq items.toList.reverse.toArray) := by
    show items.toList.reverse.toArray.size ≤ sizeLine
    rw [List.size_toArray, List.length_reverse, Array.length_toList]
    exact hsz
  obtain ⟨os, hos, hcs, hds⟩ := id hs
  have hTs : s.TypeIs (.ref sl) "slice" := ⟨os, hos, hcs⟩
  unfold getItem
  try with_reducible refine wpAny_holding ?_
  first | refine wpAny_bind (wpAny_pure ?_) | skip
  refine wpAny_bind (wpAny_sequenceKey ht.typeIs (by decide) ?_)
  refine wpAny_bind (wpAny_callSpecial?_slot (name := Str.ofString "__getitem__") ht.typeIs PyProof.Rows.slot_tuple_getitem
    (wpAny_call_entry PyProof.Rows.slot_tuple_getitem ht.typeIs entry_tuple_getitem ?_ (args_tuple_getitem _ _)))
  show wpAny _ _ (Builtin.Tuple.tupleItemsOf (.ref t) >>= _) _ _ s
  refine wpAny_bind (tupleItemsOf_ ht ?_)
  refine wpAny_bind (wpAny_typeOf hTs ?_)
  rw [if_pos (by decide)]
  refine wpAny_bind (sliceApplied_rev hs ?_)
  have hno : ¬ ((((items.size : Int) - 1) == 0 && (-1 : Int) == 1 && items.size == items.size) = true) := by
    intro q
    rw [Bool.and_eq_true, Bool.and_eq_true] at q
    exact absurd q.1.2 (by decide)
  show wpAny _ _ (if (((items.size : Int) - 1) == 0 && (-1 : Int) == 1 && items.size == items.size) = true then _ else _) _ _ s
  rw [if_neg hno, revPick]
  first
    | exact wpAny_bind (m := Builtin.Tuple.tupleExact _) (wpAny_newObj_type (wpAny_pure ⟨_, rfl, wpAny_pure h⟩) htake)
    | exact wpAny_bind (m := Builtin.Tuple.tupleExact _) (wpAny_newObj_type (wpAny_bind (wpAny_pure (wpAny_pure ⟨_, rfl, wpAny_pure h⟩))) htake)
    | exact wpAny_bind (wpAny_bind (m := Builtin.Tuple.tupleExact _) (wpAny_newObj_type (wpAny_pure (wpAny_pure ⟨_, rfl, wpAny_pure h⟩)) htake))
    | exact wpAny_bind (wpAny_bind (m := Builtin.Tuple.tupleExact _) (wpAny_newObj_type (wpAny_pure ⟨_, rfl, wpAny_pure h⟩) htake))
end
section
variable {X : Cx} {N : List Str} {sc : Scope} {k : Nat} {E : Env} {m : Type → Type} [Mon m]
def oRev : Val → Res Val
  | .lst xs => .ok (.lst xs.reverse)
  | .tup xs => .ok (.tup xs.reverse)
  | _ => .stuck
theorem ev_rev {e : Expr} {kk} {p1 p2 p3 pos : Pos} {r : m Val} (h : Ev X E e r) : Ev X E (.Subscript e (.Slice none none (some (.UnaryOp .USub (.Constant (.int 1) kk p1) p2)) p3) pos) (r >>= fun x => Mon.of (oRev x)) := by
  intro B0 S κ G σ H sat W tk Q q
  refine ⟨fun pins s I => ?_⟩
  refine Subscript_ (thn ((h B0 S κ G σ H sat W tk _ (bindP (R := Rep X.K X.mg) q)).run pins s I) fun u s1 ⟨v, H1, I1, r1, x, κ1, G1, S1, e1, rx, h1⟩ => ?_)
  have h2 := h1.ofOk
  have hst : PO X (some (.UnaryOp .USub (.Constant (.int 1) kk p1) p2)) (tPart (tUn (rU fun i => .int (-i)) (tC (.int 1)))) := po_some (pe_un un_neg pe_int)
  refine wpAny_Slice (thn (po_none.run pins s1 σ H1 (fun o H2 => o = none ∧ H2 = H1) I1 ⟨rfl, rfl⟩) fun vl s2 ⟨l, H2, I2, pl, el, e2⟩ => ?_)
  subst el e2
  refine thn (po_none.run pins s2 σ H2 (fun o H3 => o = none ∧ H3 = H2) I2 ⟨rfl, rfl⟩) fun vu s3 ⟨u, H3, I3, pu, eu, e3⟩ => ?_
  subst eu e3
  refine thn (hst.run pins s3 σ H3 (fun o H4 => o = some (-1) ∧ H4 = H3) I3 ⟨1, rfl, -1, rfl, rfl, rfl⟩) fun vs s4 ⟨o, H4, I4, ps, eo, e4⟩ => ?_
  subst eo e4
  have I5 : L2.Inv X pins σ H4 { s4 with heap := s4.heap.push { cls := .type "slice", data := .fields #[vl, vu, vs] } } := I4.kept (t' := s4.toks) fun b ob q => Heap.get?_push_of_some _ q
  cases x with
  | lst xs =>
    obtain ⟨a, us, ev, hq, t⟩ := rep_lst rx
    subst ev
    cases r1
    obtain ⟨its, r, ht, hz⟩ := I5.list (.inl (.inl (e1.e.w.le _ _ hq)))
    refine tail_any (ops := [.ref a, .ref s4.heap.objs.size]) ht.isList.typeIs (PySem.slot_list_getitem.lookup) ?_ (by with_unfolding_all rfl)
    refine wpAny_getItem_list_slice ht.isList (Heap.IsSliceOf.new _ vl vu vs) pl pu ps (by decide) ?_ (by rw [List.size_toArray]; have := r.length; omega)
    rw [PySem.W.krv_pick]
    refine ⟨.ref _, _, I5.laid (t' := s4.toks) (o := .lst us.reverse) (fun b ob q => Heap.get?_push_of_some _ q) (Nat.le_refl _) ?_, rfl, new_lst e1.e.w (I5.hok.fresh (Nat.le_refl _)) t.reverse h2⟩
    exact ⟨by rw [List.length_reverse]; exact hz, _, 0, r.reverse, Heap.get?_push_size _ rfl⟩
  | tup xs =>
    obtain ⟨a, us, ev, hq, t⟩ := rep_tup rx
    subst ev
    cases r1
    obtain ⟨its, r, ht, hz⟩ := I5.tuple (e1.e.w.le.sqT hq)
    refine tail_any (ops := [.ref a, .ref s4.heap.objs.size]) ht.typeIs (PyProof.Rows.slot_tuple_getitem.lookup) ?_ (by with_unfolding_all rfl)
    cases pl
    cases pu
    cases ps
    refine getItem_tuple_rev ht (Heap.IsSliceOf.new _ _ _ _) ?_ (by rw [List.size_toArray, ← r.length]; exact hz)
    refine ⟨.ref _, _, I5.laid (t' := s4.toks) (o := .tup us.reverse) (fun b ob q => Heap.get?_push_of_some _ q) (Nat.le_refl _) ?_, rfl, new_tup e1.e.w (I5.hok.fresh (Nat.le_refl _)) t.reverse h2⟩
    exact ⟨by rw [List.length_reverse]; exact hz, _, r.reverse, IsTup.new _ _⟩
  | _ => exact h2.elim
/-! ### isinstance(e, T), T a built-in type -/
theorem ev_isB (c : Ctx X N sc k) {a : Expr} {x : Str} {T : String} {p p2 pos : Pos} {r : m Val} (hg : glB sc "isinstance" = true) (hm : X.mg "isinstance" = none) (hgT : glB sc x = true) (hmT : X.mg x = none) (hv : bootBuiltins x = some (.type T)) (hT : ["bool", "int", "str", "tuple", "list", "dict"].contains T = true)
    (h : Ev X E a r) (hs : notStar a = true := by rfl) : Ev X E (.Call (.Name "isinstance" p) [a, .Name x p2] [] pos) (r >>= fun x => Mon.of (fIsB T x)) := by
  intro B0 S κ G σ H sat W tk Q q
  obtain ⟨g1, g2, g3⟩ := c.gl hg
  obtain ⟨t1, t2, t3⟩ := c.gl hgT
  have pT : PE X (.Name x p2) (tC (.ty T)) := pe_bltn t1 hmT hv rfl t3 t2
  refine we_of (pe_callB call_isi g1 hm PyProof.Rows.boot_isinstance (pa_cons pe_self (pa_cons pT pa_nil rfl) (star_of hs _ _)) (hn := g3) (hdb := g2) (he := star_of hs _ X.env) (hpl := plain_of (es := [.Name x p2]) rfl pos X.env)) ?_
  refine h B0 S κ G σ H sat W tk _ (bindW q fun x v κ1 G1 H1 S1 e1 r1 h1 => ?_)
  have h2 := h1.ofOk
  unfold fIsB at h2
  split at h2
  · rename_i b hb
    cases ht : tyName x with
    | none => rw [ht] at hb; cases hb
    | some t =>
      rw [ht] at hb
      have ty := tyX_of e1.e.w.le r1 ht
      refine ⟨v, .ty T, .type t, .type T, b, rfl, .ty T, ty, kit_tab X.K hb ?_ hT, h2.okR e1.e.w (repB _)⟩
      cases x <;> first | (cases ht; decide) | cases ht
  · exact h2.elim
/-! ### a op b op c -/
theorem ev_chain {op op' : CmpOp} {g g' : Val → Val → Res Val} {a b d : Expr} {pos : Pos} {ra rb rd : m Val} (hg : Op2 X (compareOp op) g) (hg' : Op2 X (compareOp op') g') (ha : Ev X E a ra) (hb : Ev X E b rb) (hd : Ev X E d rd) (hm : lastMarks [op, op'] [b, d] = false := by rfl) :
    Ev X E (.Compare a [op, op'] [b, d] pos) (ra >>= fun x => rb >>= fun y => Mon.of (g x y >>= vBl) >>= fun t => if t = true then rd >>= fun z => Mon.of (g' y z) else Pure.pure (.bl false)) := by
  intro B0 S κ G σ H sat W tk Q h
  refine we_of (pe_chain op_self op_self pe_self pe_self pe_self hm) ?_
  refine ha B0 S κ G σ H sat W tk _ (bindW h fun x v κ1 G1 H1 S1 e1 r1 h1 => ?_)
  have sat1 := sat.ext e1.weak
  refine hb B0 S1 κ1 G1 σ H1 sat1 W tk _ (bindW h1 fun y u κ2 G2 H2 S2 e2 r2 h2 => ?_)
  have sat2 := sat1.ext e2.weak
  have h3 := bindP (R := RB) h2
  refine hg κ2 G2 H2 S2 x y v u _ _ e2.e.w (r1.mono e2.e.pre e2.e.le) r2 (bindW (m := Res) h3.ofOk fun z w κ3 G3 H3 S3 e3 r3 h4 => ?_)
  cases z with
  | bl t =>
    rw [rep_bl r3]
    obtain ⟨t', κ4, G4, S4, e4, et, h5⟩ := h4 κ3 G3 H3 t (ExtB.refl e3.e.w) rfl
    subst et
    refine ⟨t', rfl, ?_⟩
    have sat4 := sat2.ext e4.weak
    cases t' with
    | true =>
      rw [if_pos rfl] at h5 ⊢
      exact hd B0 S4 κ4 G4 σ H3 sat4 W tk _ (bindW h5 fun z' w' κ5 G5 H5 S5 e5 r5 h6 =>
        hg' κ5 G5 H5 S5 y z' u w' Q _ e5.e.w ((r2.mono e4.e.pre e4.e.le).mono e5.e.pre e5.e.le) r5 h6.ofOk)
    | false =>
      rw [if_neg Bool.false_ne_true] at h5 ⊢
      exact Post.pure (m := m) h5 e4.e.w (repB _)
  | _ => exact h4.elim
/-- a chain as a test -/
theorem et_chain {op op' : CmpOp} {g g' : Val → Val → Res Val} {a b d : Expr} {pos : Pos} {ra rb rd : m Val} (hg : Op2 X (compareOp op) g) (hg' : Op2 X (compareOp op') g') (ha : Ev X E a ra) (hb : Ev X E b rb) (hd : Ev X E d rd) (hm : lastMarks [op, op'] [b, d] = false := by rfl) :
    Et X E (.Compare a [op, op'] [b, d] pos) (ra >>= fun x => rb >>= fun y => Mon.of (g x y >>= vBl) >>= fun t => if t = true then rd >>= fun z => Mon.of (g' y z >>= vBl) else Pure.pure false) := by
  intro B0 S κ G σ H sat W tk Q h
  refine wt_of (pt_chain op_self op_self pe_self pe_self pe_self hm) ?_
  refine ha B0 S κ G σ H sat W tk _ (bindW h fun x v κ1 G1 H1 S1 e1 r1 h1 => ?_)
  have sat1 := sat.ext e1.weak
  refine hb B0 S1 κ1 G1 σ H1 sat1 W tk _ (bindW h1 fun y u κ2 G2 H2 S2 e2 r2 h2 => ?_)
  have sat2 := sat1.ext e2.weak
  have h3 := bindP (R := RB) h2
  refine hg κ2 G2 H2 S2 x y v u _ _ e2.e.w (r1.mono e2.e.pre e2.e.le) r2 (bindW (m := Res) h3.ofOk fun z w κ3 G3 H3 S3 e3 r3 h4 => ?_)
  cases z with
  | bl t =>
    rw [rep_bl r3]
    obtain ⟨t', κ4, G4, S4, e4, et, h5⟩ := h4 κ3 G3 H3 t (ExtB.refl e3.e.w) rfl
    subst et
    refine ⟨t', rfl, ?_⟩
    have sat4 := sat2.ext e4.weak
    cases t' with
    | true =>
      rw [if_pos rfl] at h5 ⊢
      exact hd B0 S4 κ4 G4 σ H3 sat4 W tk _ (bindW h5 fun z' w' κ5 G5 H5 S5 e5 r5 h6 =>
        hg' κ5 G5 H5 S5 y z' u w' _ _ e5.e.w ((r2.mono e4.e.pre e4.e.le).mono e5.e.pre e5.e.le) r5 (bindW (m := Res) h6.ofOk fun z2 w2 κ6 G6 H6 S6 e6 r6 h7 => by
          cases z2 with
          | bl t2 => rw [rep_bl r6]; exact ⟨t2, rfl, h7 κ6 G6 H6 t2 (ExtB.refl e6.e.w) rfl⟩
          | _ => exact h7.elim))
    | false =>
      rw [if_neg Bool.false_ne_true] at h5 ⊢
      exact ⟨false, rfl, Post.pure (m := m) h5 e4.e.w rfl⟩
  | _ => exact h4.elim
/-! ### (*xs, y) -/
theorem ea_star {e : Expr} {es : List Expr} {p : Pos} {r : m Val} {rs : m (List Val)} (h : Ev X E e r) (ht : Ea X E es rs) : Ea X E (.Starred e p :: es) (r >>= fun x => Mon.of (vSeq x) >>= fun xs => rs >>= fun ys => Pure.pure (xs ++ ys)) := by
  intro B0 S κ G σ H sat W tk Q q
  refine wa_of (StX.pa_star pe_self pa_self) ?_
  refine h B0 S κ G σ H sat W tk _ (bindW q fun x v κ1 G1 H1 S1 e1 r1 h1 => ?_)
  have sat1 := sat.ext e1.weak
  rcases vSeq_cases x with ⟨xs, hx⟩ | hx
  · rw [hx] at h1
    have h2 := bindP (R := fun _ _ a b => a = b) h1
    rw [Mon.run_of] at h2
    obtain ⟨xs', κ2, G2, S2, e2, et, h3⟩ := h2 κ1 G1 H1 xs (ExtB.refl e1.e.w) rfl
    subst et
    obtain ⟨b, a, vs, ev, hq, t⟩ := rep_seq (r1.mono e2.e.pre e2.e.le) hx
    subst ev
    refine ⟨a, vs, rfl, ?_, ?_⟩
    · have := hq H1 e2.e.w.le
      cases b
      · exact .inr this
      · exact .inl this
    · refine ht B0 S2 κ2 G2 σ H1 (sat1.ext e2.weak) W tk _ (bindW h3 fun ys us κ3 G3 H3 S3 e3 r3 h4 => ?_)
      exact Post.pure (m := m) h4 e3.e.w ((t.mono e3.e.pre e3.e.le).append r3)
  · rw [hx] at h1
    have h2 := bindP (R := fun _ _ a b => a = b) (γ := List Val) h1
    rw [Mon.run_of] at h2
    exact h2.elim
/-! ### a[lo:hi] -/
def cutA {α : Type} (xs : List α) (lo hi : Option Int) : List α := (xs.drop (HT.sIx xs.length 0 lo)).take (HT.sIx xs.length xs.length hi - HT.sIx xs.length 0 lo)
def oSl : Val → Option Int → Option Int → Res Val
  | .lst xs, lo, hi => .ok (.lst (cutA xs lo hi))
  | .tup xs, lo, hi => .ok (.tup (cutA xs lo hi))
  | .scr xs, lo, hi => .ok (.lst (cutA xs lo hi))
  | .str x, lo, hi => if x.length ≤ sizeLine then .ok (.str (cutS x lo hi)) else .stuck
  | _, _, _ => .stuck
/-- an end of a slice -/
def Ep (X : Cx) (E : Env) (e : Option Expr) (r : m (Option Int)) : Prop :=
  ∀ B0 S κ G σ H, Sat X.K X.mg false B0 E S κ G σ H → ∀ W : WX, Takes X W → ∀ Q : Option Int → Hp → Prop, Post X.K X.mg (Mon.pu m) (fun _ _ a b => a = b) κ G H S (Mon.run r S) Q (fun c d H' => W c d σ H') → ∃ t, PO X e t ∧ t σ H Q
def asInt : Val → Res (Option Int)
  | .int i => .ok (some i)
  | _ => .stuck
theorem ep_none : Ep X E none (Pure.pure none : m (Option Int)) := fun B0 S κ G σ H sat W tk Q q => ⟨_, po_none, Post.pure (m := m) q sat.w rfl⟩
theorem ep_some {e : Expr} {r : m Val} (h : Ev X E e r) : Ep X E (some e) (r >>= fun x => Mon.of (asInt x)) := fun B0 S κ G σ H sat W tk Q q => ⟨_, po_some pe_self, h B0 S κ G σ H sat W tk _ (bindW q fun x v κ1 G1 H1 S1 e1 r1 h1 => by
  have h2 := h1.ofOk
  cases x with
  | int i => exact ⟨i, rep_int r1, h2 κ1 G1 H1 (some i) (ExtB.refl e1.e.w) rfl⟩
  | _ => exact h2.elim)⟩
theorem sl_all3 : SlR X (fun x lo hi H Q => rSlL X.K x lo hi H Q ∨ rSlA X.K x lo hi H Q ∨ rSlS x lo hi H Q) := sl_list.or (sl_tupA.or sl_str)
theorem cutA_rep {K : PySem.W.Frag} {mg : Str → Option Value} {κ : List Addr} {G : Hp} {xs : List Val} {vs : List V} {lo hi : Option Int} (t : RepL K mg κ G xs vs) : RepL K mg κ G (cutA xs lo hi) (cutV vs lo hi) := by
  unfold cutA cutV
  rw [t.length]
  exact (t.drop _).take _
theorem ev_slice {e : Expr} {lo hi : Option Expr} {p2 pos : Pos} {r : m Val} {rl rh : m (Option Int)} (h : Ev X E e r) (hl : Ep X E lo rl) (hh : Ep X E hi rh) :
    Ev X E (.Subscript e (.Slice lo hi none p2) pos) (r >>= fun x => rl >>= fun l => rh >>= fun u => Mon.of (oSl x l u)) := by
  intro B0 S κ G σ H sat W tk Q q
  refine ⟨fun pins s I => ?_⟩
  refine Subscript_ (thn ((h B0 S κ G σ H sat W tk _ (bindP (R := Rep X.K X.mg) q)).run pins s I) fun u s1 ⟨v, H1, I1, r1, x, κ1, G1, S1, e1, rx, h1⟩ => ?_)
  have sat1 := sat.ext e1.weak
  obtain ⟨tl, pl, q1⟩ := hl B0 S1 κ1 G1 σ H1 sat1 W tk _ (bindP (R := fun _ _ a b => a = b) h1)
  refine wpAny_Slice (thn (pl.run pins s1 σ H1 _ I1 q1) fun vl s2 ⟨l, H2, I2, pl, l', κ2, G2, S2, e2, el, h2⟩ => ?_)
  subst el
  have sat2 := sat1.ext e2.weak
  obtain ⟨th, ph, q2⟩ := hh B0 S2 κ2 G2 σ H2 sat2 W tk _ (bindP (R := fun _ _ a b => a = b) h2)
  refine thn (ph.run pins s2 σ H2 _ I2 q2) fun vu s3 ⟨w, H3, I3, pu, w', κ3, G3, S3, e3, ew, h3⟩ => ?_
  subst ew
  rw [evalPart_none]
  refine wpAny_pure ?_
  have h4 := h3.ofOk
  have wd := e3.e.w
  have rx3 := (rx.mono e2.e.pre e2.e.le).mono e3.e.pre e3.e.le
  have I4 : L2.Inv X pins σ H3 { s3 with heap := s3.heap.push { cls := .type "slice", data := .fields #[vl, vu, .none] } } := I3.kept (t' := s3.toks) fun b ob q => Heap.get?_push_of_some _ q
  obtain ⟨T, id, hT, ht, hg⟩ := sl_all3 pins { s3 with heap := s3.heap.push { cls := .type "slice", data := .fields #[vl, vu, .none] } } σ H3 v u vl vu l' w' s3.heap.objs.size Q I4 r1 (Heap.IsSliceOf.new ..) pl pu (by
    cases x with
    | lst xs =>
      obtain ⟨a, vs, ev, hq, t⟩ := rep_lst rx3
      exact .inl ⟨a, vs, ev, .inl (.inl (wd.le _ _ hq)), fun p hp => new_lst wd hp (cutA_rep t) h4⟩
    | tup xs =>
      obtain ⟨a, vs, ev, hq, t⟩ := rep_tup rx3
      refine .inr (.inl ⟨a, vs, ev, wd.le.sqT hq, fun hw => ?_, fun hw p hp => new_tup wd hp (cutA_rep t) h4⟩)
      refine h4.okR wd ?_
      unfold Rep
      refine ⟨a, vs, rfl, hq, ?_⟩
      have := cutA_rep (lo := l') (hi := w') t
      have e5 : cutV vs l' w' = vs := by
        unfold cutV
        rw [hw.1, hw.2]
        simp
      rw [e5] at this
      exact this
    | scr xs =>
      obtain ⟨a, vs, ev, hq, t⟩ := rep_scr rx3
      exact .inl ⟨a, vs, ev, wd.le.sqL hq, fun p hp => new_lst wd hp (cutA_rep t) h4⟩
    | str z =>
      have h4 : Post X.K X.mg true (Rep X.K X.mg) κ3 G3 H3 S3 (lift (if z.length ≤ sizeLine then .ok (.str (cutS z l' w')) else .stuck) S3) Q _ := h4
      split at h4
      · exact .inr (.inr ⟨z, rep_str rx3, by assumption, h4.okR wd (repS _)⟩)
      · exact h4.elim
    | _ => exact h4.elim)
  exact tail_any (ops := [.ref s3.heap.objs.size, u]) ht hT hg (by with_unfolding_all rfl)
end
end Tv

/-! cells, owned lists: statements -/
namespace Tv
open PySem PySem.Spec PyProof.Rows L2

section
variable {K : PySem.W.Frag} {mg : Str → Option Value} {b : Bool} {B0 : Bs} {κ : List Addr} {G H : Hp} {S : Cells} {E : Env} {σ : L2.St}
theorem CRep.keep {a x : Addr} {o : HO} (ha : x ≠ a) : ∀ {c : Val}, CRep K mg κ G H x c → CRep K mg κ G (L2.upd H a o) x c
  | .lst xs, q => by obtain ⟨vs, e, r⟩ := q; exact ⟨vs, by rw [upd_ne ha]; exact e, r⟩
  | .obj C fs, q => by obtain ⟨Ca, dx, vs, e0, e, r⟩ := q; exact ⟨Ca, dx, vs, e0, by rw [upd_ne ha]; exact e, r⟩
  | .dic xs, q => by obtain ⟨vs, e, r⟩ := q; exact ⟨vs, by rw [upd_ne ha]; exact e, r⟩
  | .non, q => q.elim
  | .bl _, q => q.elim
  | .int _, q => q.elim
  | .str _, q => q.elim
  | .tup _, q => q.elim
  | .cell _, q => q.elim
  | .scr _, q => q.elim
/-- a cell's content is changed -/
theorem Wd.cellset (w : Wd K mg κ G H S) {n : Nat} {a : Addr} {c : Val} {o : HO} (hk : κ[n]? = some a) (hc : CRep K mg κ G (L2.upd H a o) a c) : ExtB K mg false κ G H S κ G (L2.upd H a o) (S.set n c) := by
  have am : a ∈ κ := List.mem_of_getElem? hk
  refine ⟨⟨Pre.refl _, Le.refl _, fun x u h nx => ?_, fun _ _ h => h, fun x h nx => absurd h nx, ⟨fun x u h => ?_, w.nd, w.ap, by rw [List.length_set]; exact w.len, fun j x v h1 h2 => ?_⟩⟩, fun z => nomatch z⟩
  · rw [upd_ne (show x ≠ a from fun e => nx (e ▸ am))]; exact h
  · rw [upd_ne (show x ≠ a from fun e => by rw [e, w.ap a am] at h; cases h)]; exact w.le x u h
  · by_cases e : n = j
    · subst e
      rw [hk] at h1
      cases h1
      have hl : n < S.length := by
        have := (List.getElem?_eq_some_iff.mp hk).1
        rw [w.len] at this; exact this
      rw [List.getElem?_set_self hl] at h2
      cases h2
      exact hc
    · rw [List.getElem?_set_ne e] at h2
      have ne : x ≠ a := fun z => by
        subst z
        have l1 := (List.getElem?_eq_some_iff.mp h1)
        have l2 := (List.getElem?_eq_some_iff.mp hk)
        obtain ⟨p1, q1⟩ := l1
        obtain ⟨p2, q2⟩ := l2
        exact e ((List.getElem_inj w.nd).mp (q2.trans q1.symm))
      exact (w.cel j x v h1 h2).keep ne
theorem Wd.celL (w : Wd K mg κ G H S) {n : Nat} {a : Addr} {xs : List Val} (hk : κ[n]? = some a) (hS : S[n]? = some (.lst xs)) : ∃ vs, H a = some (.lst vs) ∧ RepL K mg κ G xs vs := w.cel n a _ hk hS
theorem rep_cell {n : Nat} {v : V} (h : Rep K mg κ G (.cell n) v) : ∃ a, κ[n]? = some a ∧ v = .ref a := by unfold Rep at h; exact h
/-- a new cell -/
theorem Wd.cellnew (w : Wd K mg κ G H S) {p : Addr} {c : Val} {o : HO} (hp : H p = none) (hc : CRep K mg κ G (L2.upd H p o) p c) : ExtB K mg false κ G H S (κ ++ [p]) G (L2.upd H p o) (S ++ [c]) := by
  have gp : G p = none := by
    cases e : G p with
    | none => rfl
    | some u => rw [w.le p u e] at hp; cases hp
  have np : p ∉ κ := fun m => w.there m hp
  have pre : Pre κ (κ ++ [p]) := fun n x h => by rw [List.getElem?_append_left (List.getElem?_eq_some_iff.mp h).1]; exact h
  refine ⟨⟨pre, Le.refl _, fun x u h nx => ?_, fun _ _ h => h, fun x h nx => ?_, ⟨fun x u h => ?_, ?_, fun x h => ?_, by simp [w.len], fun j x v h1 h2 => ?_⟩⟩, fun z => nomatch z⟩
  · rw [upd_ne (show x ≠ p from fun e => by rw [e, hp] at h; cases h)]; exact h
  · rcases List.mem_append.mp h with h | h
    · exact absurd h nx
    · rw [List.mem_singleton.mp h]; exact hp
  · rw [upd_ne (show x ≠ p from fun e => by rw [e, gp] at h; cases h)]; exact w.le x u h
  · refine List.nodup_append.mpr ⟨w.nd, List.pairwise_singleton _ _, fun x hx y hy e => ?_⟩
    rw [List.mem_singleton.mp hy] at e
    exact np (e ▸ hx)
  · rcases List.mem_append.mp h with h | h
    · exact w.ap x h
    · rw [List.mem_singleton.mp h]; exact gp
  · have mono : ∀ {c : Val} {x : Addr}, CRep K mg κ G (L2.upd H p o) x c → CRep K mg (κ ++ [p]) G (L2.upd H p o) x c := fun {c x} q => by
      cases c with
      | lst xs => obtain ⟨vs, e, r⟩ := q; exact ⟨vs, e, r.mono pre (Le.refl _)⟩
      | obj C fs => obtain ⟨Ca, dx, vs, e0, e, r⟩ := q; exact ⟨Ca, dx, vs, e0, e, r.mono pre (Le.refl _)⟩
      | dic xs => obtain ⟨vs, e, r⟩ := q; exact ⟨vs, e, r.mono pre (Le.refl _)⟩
      | _ => exact q.elim
    by_cases hj : j < κ.length
    · rw [List.getElem?_append_left hj] at h1
      rw [List.getElem?_append_left (by rw [← w.len]; exact hj)] at h2
      have xp : x ≠ p := fun e => np (e ▸ List.mem_of_getElem? h1)
      exact mono ((w.cel j x v h1 h2).keep xp)
    · have : j = κ.length := by
        have := (List.getElem?_eq_some_iff.mp h1).1
        simp at this
        omega
      subst this
      rw [List.getElem?_append_right (Nat.le_refl _)] at h1
      rw [List.getElem?_append_right (by rw [w.len]; exact Nat.le_refl _)] at h2
      simp at h1
      rw [w.len] at h2
      simp at h2
      subst h1 h2
      exact mono hc
end

/-! ### cells read and written -/
def cellOf : Val → Option Nat
  | .cell n => some n
  | _ => none
def cellL (S : Cells) (n : Nat) : Option (List Val) := match S[n]? with
  | some (.lst xs) => some xs
  | _ => none
def asI : Val → Option Int
  | .int i => some i
  | _ => none
def ixM (x i : Val) : M Val := fun S => match cellOf x with
  | some n => match cellL S n, asI i with
    | some xs, some j => (ixV xs j, S)
    | _, _ => (.stuck, S)
  | none => (oIx x i, S)
def setM (x i v : Val) : M Unit := fun S => match cellOf x with
  | some n => match cellL S n, asI i with
    | some xs, some k => match L2.ixN xs.length k with
      | some j => (.ok (), S.set n (.lst (xs.set j v)))
      | none => (.stuck, S)
    | _, _ => (.stuck, S)
  | none => (.stuck, S)
theorem cellOf_some {x : Val} {n : Nat} (h : cellOf x = some n) : x = .cell n := by cases x <;> first | (cases h; rfl) | cases h
theorem cellL_some {S : Cells} {n : Nat} {xs : List Val} (h : cellL S n = some xs) : S[n]? = some (.lst xs) := by
  unfold cellL at h
  split at h
  · cases h; assumption
  · cases h
theorem asI_some {x : Val} {n : Int} (h : asI x = some n) : x = .int n := by cases x <;> first | (cases h; rfl) | cases h
theorem setM_cases (x i v : Val) (S : Cells) : setM x i v S = (.stuck, S) ∨ ∃ n xs k j, x = .cell n ∧ S[n]? = some (.lst xs) ∧ i = .int k ∧ L2.ixN xs.length k = some j ∧ setM x i v S = (.ok (), S.set n (.lst (xs.set j v))) := by
  unfold setM
  split
  · rename_i n hn
    split
    · rename_i xs k hx hk
      split
      · rename_i j hj
        exact .inr ⟨n, xs, k, j, cellOf_some hn, cellL_some hx, asI_some hk, hj, rfl⟩
      · exact .inl rfl
    · exact .inl rfl
  · exact .inl rfl
theorem ixM_cases (x i : Val) (S : Cells) : ixM x i S = (.stuck, S) ∨ (∃ n xs k z, x = .cell n ∧ S[n]? = some (.lst xs) ∧ i = .int k ∧ L2.atI xs k = some z ∧ ixM x i S = (.ok z, S)) ∨ ixM x i S = lift (oIx x i) S := by
  unfold ixM
  split
  · rename_i n hn
    split
    · rename_i xs k hx hk
      unfold ixV
      split
      · exact .inr (.inl ⟨n, xs, k, _, cellOf_some hn, cellL_some hx, asI_some hk, by assumption, rfl⟩)
      · exact .inl rfl
    · exact .inl rfl
  · exact .inr (.inr rfl)
section
variable {X : Cx} {N : List Str} {sc : Scope} {k : Nat} {E : Env}
theorem post_nocell {α γ : Type} {K : PySem.W.Frag} {mg : Str → Option Value} {p : Bool} {R : List Addr → Hp → α → γ → Prop} {κ : List Addr} {G H : Hp} {S : Cells} {Q : γ → Hp → Prop} {W : Value → Option Addr → Hp → Prop} : ¬ Post K mg p R κ G H S (.stuck, S) Q W := fun h => h
theorem ev_ixM {a b : Expr} {pos : Pos} {ra rb : M Val} (hs : PlainIx b) (ha : Ev X E a ra) (hb : Ev X E b rb) : Ev X E (.Subscript a b pos) (ra >>= fun x => rb >>= fun y => ixM x y) := by
  intro B0 S κ G σ H sat W tk Q h
  refine we_of (pe_ix ix_seq pe_self pe_self hs) ?_
  refine ha B0 S κ G σ H sat W tk _ (bindW h fun x v κ1 G1 H1 S1 e1 r1 h1 => ?_)
  refine hb B0 S1 κ1 G1 σ H1 (sat.ext e1.weak) W tk _ (bindW h1 fun y u κ2 G2 H2 S2 e2 r2 h2 => ?_)
  have r1' := r1.mono e2.e.pre e2.e.le
  have w := e2.e.w
  replace h2 : Post X.K X.mg false (Rep X.K X.mg) κ2 G2 H2 S2 (ixM x y S2) Q (fun c d H' => W c d σ H') := h2
  have plain : ∀ z, z = oIx x y → Post X.K X.mg false (Rep X.K X.mg) κ2 G2 H2 S2 (lift z S2) Q (fun c d H' => W c d σ H') → (rIx X.K) v u H2 Q := fun z hz hp => by
    subst hz
    have h : Post X.K X.mg true (Rep X.K X.mg) κ2 G2 H2 S2 (lift (oIx x y) S2) Q (fun c d H' => W c d σ H') := Post.ofOk (m := M) hp
    unfold oIx at h
    split at h
    · unfold ixV at h
      split at h
      · rename_i hq
        obtain ⟨a, vs, e, q, t⟩ := rep_lst r1'
        subst e
        rw [rep_int r2]
        obtain ⟨z, hz, rz⟩ := atI_rep t hq
        exact .inl ⟨a, vs, _, z, rfl, rfl, .inl (.inl (w.le _ _ q)), hz, h.okR w rz⟩
      · exact h.elim
    · unfold ixV at h
      split at h
      · rename_i hq
        obtain ⟨a, vs, e, q, t⟩ := rep_tup r1'
        subst e
        rw [rep_int r2]
        obtain ⟨z, hz, rz⟩ := atI_rep t hq
        exact .inr (.inl ⟨a, vs, _, z, rfl, rfl, w.le.sqT q, hz, h.okR w rz⟩)
      · exact h.elim
    · unfold ixV at h
      split at h
      · rename_i hq
        obtain ⟨a, vs, e, q, t⟩ := rep_scr r1'
        subst e
        rw [rep_int r2]
        obtain ⟨z, hz, rz⟩ := atI_rep t hq
        exact .inl ⟨a, vs, _, z, rfl, rfl, w.le.sqL q, hz, h.okR w rz⟩
      · exact h.elim
    · split at h
      · split at h
        · rw [rep_str r1', rep_int r2]
          exact .inr (.inr ⟨_, _, _, rfl, rfl, by assumption, by assumption, h.okR w (repS _)⟩)
        · exact h.elim
      · exact h.elim
    · exact h.elim
  rcases ixM_cases x y S2 with e | ⟨n, xs, k, z, ex, hS, ey, hz, e⟩ | e
  · rw [e] at h2; exact h2.elim
  · rw [e] at h2
    subst ex ey
    obtain ⟨a, hk, ev⟩ := rep_cell r1'
    obtain ⟨vs, hH, t⟩ := w.celL hk hS
    subst ev
    rw [rep_int r2]
    obtain ⟨zv, hzv, rz⟩ := atI_rep t hz
    exact .inl ⟨a, vs, _, zv, rfl, rfl, .inl (.inl hH), hzv, h2 κ2 G2 H2 zv (ExtB.refl w) rz⟩
  · rw [e] at h2
    exact plain _ rfl h2
/-- what o[i] = v comes to -/
theorem set_cell {κ : List Addr} {G H : Hp} {S : Cells} {ρ : Type} {f : Unit → M ρ} {enc : ρ → Out} {B0 : Bs} {D : Ends} {W : WX} {σ : L2.St} {x i v : Val} {xv iv vv : V} (sat : Sat X.K X.mg false B0 E S κ G σ H) (rx : Rep X.K X.mg κ G x xv) (ri : Rep X.K X.mg κ G i iv) (rv : Rep X.K X.mg κ G v vv)
    (h : PostS X.K X.mg false B0 (M.bind (setM x i v) f S) enc D W) {Q : Hp → Prop} (hQ : ∀ H' S', Sat X.K X.mg false B0 E S' κ G σ H' → PostS X.K X.mg false B0 (f () S') enc D W → Q H') : rSetL xv iv vv H Q := by
  unfold M.bind at h
  rcases setM_cases x i v S with e | ⟨n, xs, k, j, ex, hS, ei, hj, e⟩
  · rw [e] at h; exact h.elim
  · rw [e] at h
    subst ex ei
    obtain ⟨a, hk, ev⟩ := rep_cell rx
    obtain ⟨vs, hH, t⟩ := sat.w.celL hk hS
    subst ev
    rw [rep_int ri]
    have x := sat.w.cellset (c := .lst (xs.set j v)) (o := .lst (vs.set j vv)) hk ⟨_, upd_same, t.set j rv⟩
    exact ⟨a, vs, k, j, rfl, rfl, hH, by rw [t.length]; exact hj, hQ _ _ (sat.ext x) h⟩
theorem sx_setC {ρ : Type} {enc : ρ → Out} {rest : List Stmt} {Ks : List (List Stmt)} {o i e : Expr} {ps pos : Pos} {re ro ri : M Val} {r : M ρ} (he : Ev X E e re) (ho : Ev X E o ro) (hi : Ev X E i ri) (hr : Sx X E rest Ks r enc)
    (hs : swapsWithSole [.Subscript o i ps] e pos.line X.env = pure false) (hw : swappedStores [.Subscript o i ps] e X.env = pure none) (h1 : (assignEach [.Subscript o i ps] X.env).map (·.2) = [assign (.Subscript o i ps) X.env])
    (hg : ∀ v, assign (.Subscript o i ps) X.env v = (do
      let ov ← holding [v] (eval o X.env)
      let iv ← holding [v, ov] (eval i X.env)
      standAt ps
      holding [v, ov, iv] (setItem ov iv v)
      release [v, ov, iv] [])) :
    Sx X E (.Assign [.Subscript o i ps] e pos :: rest) Ks (re >>= fun v => ro >>= fun x => ri >>= fun j => setM x j v >>= fun _ => r) enc := by
  intro B0 S κ G σ H sat W tk D q
  refine wss_of (pss_cons (ps_asg pe_self (pg_sub pe_self pe_self set_list hg) hs hw h1) (pss_self (e := rest))) ?_
  refine he B0 S κ G σ H sat W tk _ (bindS sat q fun v vv κ1 G1 H1 S1 sat1 r1 h1 x1 => ?_)
  refine ho B0 S1 κ1 G1 σ H1 sat1 W tk _ (bindS sat1 h1 fun x xv κ2 G2 H2 S2 sat2 r2 h2 x2 => ?_)
  refine hi B0 S2 κ2 G2 σ H2 sat2 W tk _ (bindS sat2 h2 fun j jv κ3 G3 H3 S3 sat3 r3 h3 x3 => ?_)
  exact set_cell sat3 (r2.mono x3.e.pre x3.e.le) r3 ((r1.mono x2.e.pre x2.e.le).mono x3.e.pre x3.e.le) h3 fun H' S' sat' h' => hr B0 S' κ3 G3 σ H' sat' W tk D h'
end
end Tv

/-! owned lists, targets, augmented assignment -/
namespace Tv
open PySem PySem.Spec PyProof.Rows L2

/-- a fresh list has come -/
def PostN (K : PySem.W.Frag) (mg : Str → Option Value) (p : Bool) (κ : List Addr) (G H : Hp) (S : Cells) (r : Res (List Val) × Cells) (Q : VK) (W : Value → Option Addr → Hp → Prop) : Prop :=
  match r with
  | (.ok xs, S') => ∀ κ' G' H' a vs, ExtB K mg p κ G H S κ' G' H' S' → H a = none → H' a = some (.lst vs) → G' a = none → a ∉ κ' → RepL K mg κ' G' xs vs → Q (.ref a) H'
  | (.exn c fs, S') => ∀ κ' G' H' cls d, ExtB K mg p κ G H S κ' G' H' S' → ERep K mg κ' G' c fs cls d → W cls d H'
  | (.stuck, _) => False
section
variable {X : Cx} {N : List Str} {sc : Scope} {k : Nat} {E : Env} {m : Type → Type} [Mon m] {ρ : Type} {enc : ρ → Out} {rest : List Stmt} {Ks : List (List Stmt)}
/-- the expression makes a new list -/
def Eo (X : Cx) (E : Env) (e : Expr) (r : m (List Val)) : Prop :=
  ∀ B0 S κ G σ H, Sat X.K X.mg false B0 E S κ G σ H → ∀ W : WX, Takes X W → ∀ Q : VK, PostN X.K X.mg (Mon.pu m) κ G H S (Mon.run r S) Q (fun c d H' => W c d σ H') → WE X e σ H Q
theorem freshG {K : PySem.W.Frag} {mg : Str → Option Value} {κ : List Addr} {G H : Hp} {S : Cells} (w : Wd K mg κ G H S) {p : Addr} (hp : H p = none) : G p = none ∧ p ∉ κ := by
  refine ⟨?_, fun m => w.there m hp⟩
  cases e : G p with
  | none => rfl
  | some u => rw [w.le p u e] at hp; cases hp
theorem ExtB.fresh {K : PySem.W.Frag} {mg : Str → Option Value} {p : Bool} {κ κ1 : List Addr} {G G1 H H1 : Hp} {S S1 : Cells} (x : ExtB K mg p κ G H S κ1 G1 H1 S1) {a : Addr} (h : H1 a = none) : H a = none := by
  cases e : H a with
  | none => rfl
  | some o =>
    by_cases m : a ∈ κ
    · exact absurd h (x.e.w.there (x.e.pre.mem m))
    · rw [x.e.keep a o e m] at h; cases h
theorem eo_lst {es : List Expr} {pos : Pos} {rs : m (List Val)} (h : Ea X E es rs) : Eo X E (.List es pos) (rs >>= fun xs => Mon.of (if xs.length ≤ sizeLine then .ok xs else .stuck)) := by
  intro B0 S κ G σ H sat W tk Q q
  refine we_of (pe_lst pa_self) ?_
  have q2 : Post X.K X.mg (Mon.pu m) (RepL X.K X.mg) κ G H S (Mon.run rs S) (fun vs H1 => ∃ xs κ1 G1 S1, ExtB X.K X.mg (Mon.pu m) κ G H S κ1 G1 H1 S1 ∧ RepL X.K X.mg κ1 G1 xs vs ∧ PostN X.K X.mg (Mon.pu m) κ G H S (Mon.run (m := m) (Mon.of (if xs.length ≤ sizeLine then .ok xs else .stuck)) S1) Q (fun c d H' => W c d σ H')) (fun c d H' => W c d σ H') := by
    rw [Mon.run_bind] at q
    have q : PostN X.K X.mg (Mon.pu m) κ G H S (M.bind (Mon.run rs) (fun xs => Mon.run (m := m) (Mon.of (if xs.length ≤ sizeLine then .ok xs else .stuck))) S) Q (fun c d H' => W c d σ H') := q
    unfold M.bind at q
    cases e : Mon.run rs S with
    | mk r S1 =>
      rw [e] at q
      cases r with
      | ok xs => exact fun κ1 G1 H1 vs x r => ⟨xs, κ1, G1, S1, x, r, q⟩
      | exn c fs => exact q
      | stuck => exact q
  refine h B0 S κ G σ H sat W tk _ (q2.mono fun vs H1 ⟨xs, κ1, G1, S1, x, r, h1⟩ => ?_)
  rw [Mon.run_of] at h1
  split at h1
  · refine ⟨by rw [r.length]; assumption, fun p hp => ?_⟩
    obtain ⟨gp, kp⟩ := freshG x.e.w hp
    have wd := x.e.w.own (o := .lst vs) gp kp
    refine h1 κ1 G1 _ p vs ⟨⟨x.e.pre, x.e.le, fun c u hc n => ?_, x.e.newG, x.e.newC, wd⟩, fun z => ?_⟩ (x.fresh hp) upd_same gp kp r
    · have := x.e.keep c u hc n
      rw [upd_ne (show c ≠ p from fun e => by rw [e, hp] at this; cases this)]; exact this
    · obtain ⟨p1, p2, p3⟩ := x.p z
      exact ⟨p1, p2, fun c u hc => by
        have := p3 c u hc
        rw [upd_ne (show c ≠ p from fun e => by rw [e, hp] at this; cases this)]; exact this⟩
  · exact h1.elim
theorem eo_nil {pos : Pos} : Eo X E (.List [] pos) (Pure.pure [] : m (List Val)) := by
  have h := eo_lst (X := X) (E := E) (m := m) (pos := pos) (es := []) (rs := Pure.pure []) ea_nil
  intro B0 S κ G σ H sat W tk Q q
  refine h B0 S κ G σ H sat W tk Q ?_
  rw [Mon.run_bind, Mon.run_pure]
  rw [Mon.run_pure] at q
  show PostN _ _ _ _ _ _ _ (Mon.run (m := m) (Mon.of (.ok [])) S) _ _
  rw [Mon.run_of]
  exact q
/-- a fresh list is frozen at once -/
theorem ev_eo {e : Expr} {r : m (List Val)} (h : Eo X E e r) : Ev X E e (r >>= fun xs => Pure.pure (.lst xs)) := by
  intro B0 S κ G σ H sat W tk Q q
  refine h B0 S κ G σ H sat W tk Q ?_
  rw [Mon.run_bind] at q
  have q : Post X.K X.mg (Mon.pu m) (Rep X.K X.mg) κ G H S (M.bind (Mon.run r) (fun xs => Mon.run (m := m) (Pure.pure (.lst xs))) S) Q (fun c d H' => W c d σ H') := q
  unfold M.bind at q
  cases e : Mon.run r S with
  | mk r S1 =>
    rw [e] at q
    cases r with
    | ok xs =>
      have q : Post X.K X.mg (Mon.pu m) (Rep X.K X.mg) κ G H S (Mon.run (m := m) (Pure.pure (.lst xs)) S1) Q (fun c d H' => W c d σ H') := q
      rw [Mon.run_pure] at q
      intro κ1 G1 H1 a vs x h0 h1 g1 k1 rl
      have xs' : ExtS X.K X.mg (Mon.pu m) ⟨κ, G, H, S, κ, G⟩ κ1 G1 H1 S1 := ⟨x, x.e.pre, x.e.le⟩
      obtain ⟨xf, lf⟩ := xs'.freeze h0 g1 k1 h1
      refine q κ1 _ H1 (.ref a) xf.x ?_
      unfold Rep
      exact ⟨a, vs, rfl, upd_same, rl.mono (Pre.refl _) lf⟩
    | exn c fs => exact q
    | stuck => exact q
/-- a slot takes a fresh list -/
theorem Sat.takeO {K : PySem.W.Frag} {mg : Str → Option Value} {p : Bool} {B0 : Bs} {κ κ1 : List Addr} {G G1 H H1 : Hp} {S S1 : Cells} {σ : L2.St} {a : Addr} {xs : List Val} {vs : List V} {i : Nat} (sat : Sat K mg p B0 E S κ G σ H) (x : ExtB K mg p κ G H S κ1 G1 H1 S1) (h0 : H a = none) (h1 : H1 a = some (.lst vs)) (g1 : G1 a = none) (k1 : a ∉ κ1)
    (rl : RepL K mg κ1 G1 xs vs) (hi : i < E.length) : Sat K mg p B0 (E.set i (.o1 xs)) S1 κ1 G1 (σ.set i (some (.ref a))) H1 := by
  have b0 : B0.H a = none := sat.1.x.fresh h0
  obtain ⟨x0, L, so, nd, q⟩ := sat
  have e := x.e
  have so1 := so.mono (κ1 := κ1) (G1 := G1) (H1 := H1) e.pre e.le fun a m => by
    obtain ⟨_, _, n, t⟩ := q a m
    cases z : H a with
    | none => exact absurd z t
    | some o => exact e.keep a o z n
  have q1 : ∀ a ∈ L, B0.H a = none ∧ G1 a = none ∧ a ∉ κ1 ∧ H1 a ≠ none := fun a m => by
    obtain ⟨q1, q2, q3, q4⟩ := q a m
    refine ⟨q1, e.newG a q4 q2, fun z => q4 (e.newC a z q3), fun z => ?_⟩
    cases y : H a with
    | none => exact q4 y
    | some o => rw [e.keep a o y q3] at z; cases z
  have al : a ∉ L := fun m => (q a m).2.2.2 h0
  obtain ⟨L2, s2, n2, m2⟩ := so1.set (i := i) (s := .o1 xs) (ov := some (.ref a)) (L1 := [a]) hi ⟨a, vs, rfl, rfl, h1, rl⟩
  refine ⟨x0.trans x, L2, s2, n2 (fun c m => by rw [List.mem_singleton.mp m]; exact al) (List.pairwise_singleton _ _) nd, fun c m => ?_⟩
  rcases m2 c m with m | m
  · exact q1 c m
  · rw [List.mem_singleton.mp m]
    exact ⟨b0, g1, k1, by rw [h1]; exact fun z => nomatch z⟩
/-- .. ahead of the slots -/
theorem Sat.pushO {K : PySem.W.Frag} {mg : Str → Option Value} {p : Bool} {B0 : Bs} {κ κ1 : List Addr} {G G1 H H1 : Hp} {S S1 : Cells} {σ : L2.St} {a : Addr} {xs : List Val} {vs : List V} (sat : Sat K mg p B0 E S κ G σ H) (x : ExtB K mg p κ G H S κ1 G1 H1 S1) (h0 : H a = none) (h1 : H1 a = some (.lst vs)) (g1 : G1 a = none) (k1 : a ∉ κ1)
    (rl : RepL K mg κ1 G1 xs vs) : Sat K mg p B0 (.o1 xs :: E) S1 κ1 G1 (some (.ref a) :: σ) H1 := by
  have b0 : B0.H a = none := sat.1.x.fresh h0
  obtain ⟨x0, L, so, nd, q⟩ := sat
  have e := x.e
  have so1 := so.mono (κ1 := κ1) (G1 := G1) (H1 := H1) e.pre e.le fun a m => by
    obtain ⟨_, _, n, t⟩ := q a m
    cases z : H a with
    | none => exact absurd z t
    | some o => exact e.keep a o z n
  have q1 : ∀ a ∈ L, B0.H a = none ∧ G1 a = none ∧ a ∉ κ1 ∧ H1 a ≠ none := fun a m => by
    obtain ⟨q1, q2, q3, q4⟩ := q a m
    refine ⟨q1, e.newG a q4 q2, fun z => q4 (e.newC a z q3), fun z => ?_⟩
    cases y : H a with
    | none => exact q4 y
    | some o => rw [e.keep a o y q3] at z; cases z
  have al : a ∉ L := fun m => (q a m).2.2.2 h0
  refine ⟨x0.trans x, a :: L, ⟨_, σ, [a], L, rfl, rfl, ⟨a, vs, rfl, rfl, h1, rl⟩, so1⟩, List.nodup_cons.mpr ⟨al, nd⟩, fun c m => ?_⟩
  rcases List.mem_cons.mp m with m | m
  · rw [m]; exact ⟨b0, g1, k1, by rw [h1]; exact fun z => nomatch z⟩
  · exact q1 c m
/-- from ahead of the slots to its place -/
theorem Sat.place {K : PySem.W.Frag} {mg : Str → Option Value} {p : Bool} {B0 : Bs} {κ : List Addr} {G H : Hp} {S : Cells} {σ : L2.St} {s : Slot} {ov : Option V} {i : Nat} (sat : Sat K mg p B0 (s :: E) S κ G (ov :: σ) H) (hi : i < E.length) : Sat K mg p B0 (E.set i s) S κ G (σ.set i ov) H := by
  obtain ⟨x, L, ⟨ov', r, L1, Lr, e1, e2, h1, h2⟩, nd, q⟩ := sat
  cases e1
  subst e2
  obtain ⟨n1, n2, n3⟩ := List.nodup_append.mp nd
  obtain ⟨L2, s2, nn2, m2⟩ := h2.set (i := i) (s := s) (ov := ov) (L1 := L1) hi h1
  refine ⟨x, L2, s2, nn2 (fun c m m' => n3 c m c m' rfl) n1 n2, fun c m => ?_⟩
  rcases m2 c m with m | m
  · exact q c (by simp [m])
  · exact q c (by simp [m])
/-- what a fresh list ahead of a block is for -/
theorem bindN {B0 : Bs} {S : Cells} {κ : List Addr} {G H : Hp} {σ : L2.St} {x : m (List Val)} {f : List Val → m ρ} {D : Ends} {W : WX} {Q : VK} (sat : Sat X.K X.mg (Mon.pu m) B0 E S κ G σ H) (h : PostS X.K X.mg (Mon.pu m) B0 (Mon.run (x >>= f) S) enc D W)
    (q : ∀ xs a vs κ1 G1 H1 S1, ExtB X.K X.mg (Mon.pu m) κ G H S κ1 G1 H1 S1 → H a = none → H1 a = some (.lst vs) → G1 a = none → a ∉ κ1 → RepL X.K X.mg κ1 G1 xs vs → PostS X.K X.mg (Mon.pu m) B0 (Mon.run (f xs) S1) enc D W → Q (.ref a) H1) :
    PostN X.K X.mg (Mon.pu m) κ G H S (Mon.run x S) Q (fun c d H' => W c d σ H') := by
  rw [Mon.run_bind] at h
  have h : PostS X.K X.mg (Mon.pu m) B0 (M.bind (Mon.run x) (fun a => Mon.run (f a)) S) enc D W := h
  unfold M.bind at h
  cases e : Mon.run x S with
  | mk r S' =>
    rw [e] at h
    cases r with
    | ok a => exact fun κ' G' H' p vs x h0 h1 g k r' => q a p vs κ' G' H' S' x h0 h1 g k r' h
    | exn c fs => exact fun κ' G' H' cls d x r' => h κ' G' σ H' cls d (sat.1.trans x) r'
    | stuck => exact h
/-- x = a new list -/
theorem sx_own (c : CtxF X N sc k) (i : Nat) {x : Str} {e : Expr} {p pos : Pos} {r : m (List Val)} {f : List Val → m ρ} (hl : Lk N sc i x) (hi : i < E.length) (h : Eo X E e r) (hr : ∀ xs, Sx X (E.set i (.o1 xs)) rest Ks (f xs) enc) (hc : notComp e = true := by rfl) :
    Sx X E (.Assign [.Name x p] e pos :: rest) Ks (r >>= f) enc := by
  intro B0 S κ G σ H sat W tk D q
  obtain ⟨h1, h2⟩ := hl.n
  refine wss_of (pss_cons (ps_set (i := i) (by rw [c.n]; exact c.nd) (by rw [c.n]; exact h1) (by rw [c.sc]; exact h2) pe_self (swaps_of hc _ _ _) (.inl (c.fn _))) (pss_self (e := rest))) ?_
  refine h B0 S κ G σ H sat.weak W tk _ (bindN sat q fun xs a vs κ1 G1 H1 S1 x h0 h1 g1 k1 rl hp => ?_)
  exact hr xs B0 S1 κ1 G1 _ H1 (sat.takeO x h0 h1 g1 k1 rl hi) W tk D hp
/-- an owned list is changed no more -/
theorem sx_freeze (i : Nat) {ss : List Stmt} {r : m ρ} {xs : List Val} (he : E[i]? = some (.o1 xs)) (h : Sx X (E.set i (.fz (.lst xs))) ss Ks r enc) : Sx X E ss Ks r enc := by
  intro B0 S κ G σ H sat W tk D q
  obtain ⟨G', s1⟩ := sat.freeze1 he
  exact h B0 S κ G' σ H s1 W tk D q
def roomL (xs : List Val) : Res Unit := if xs.length < sizeLine then .ok () else .stuck
/-- x.append(e) -/
theorem sx_app (c : Ctx X N sc k) (i : Nat) {x : Str} {e : Expr} {p ap cp pos : Pos} {xs : List Val} {r : m Val} {f : Val → m ρ} (hn : Nm N sc i x) (he : E[i]? = some (.o1 xs)) (h : Ev X E e r) (hr : ∀ v, Sx X (E.set i (.o1 (xs ++ [v]))) rest Ks (f v) enc)
    (hs : notStar e = true := by rfl) (hl : (ap.endLine == cp.line) = true := by rfl) :
    Sx X E (.Expr (.Call (.Attribute (.Name x p) "append" ap) [e] [] cp) pos :: rest) Ks (r >>= fun v => Mon.of (roomL xs) >>= fun _ => f v) enc := by
  intro B0 S κ G σ H sat W tk D q
  refine wss_of (pss_cons (ps_expr (pe_bm PySem.F.plainAttrs_list PySem.F.slot_list_append PySem.F.type_list_append mt_append (c.pv hn) pa_self (hbase := rfl) (hfew := by rw [star_of hs]; rfl) (hline := hl) (hs := star_of hs _ _) (hplain := rfl)) rfl) (pss_self (e := rest))) ?_
  obtain ⟨a0, vs0, hσ, hH, rl, _⟩ := sat.setO1 (ys := xs) he
  refine ⟨.ref a0, hσ, .inl ⟨rfl, vs0, .inl (.inl hH)⟩, ?_⟩
  have ha : Ea X E [e] (r >>= fun v => (Pure.pure [] : m (List Val)) >>= fun ys => Pure.pure (v :: ys)) := ea_cons h ea_nil hs
  refine wa_of (pa_cons pe_self pa_nil (star_of hs _ _)) ?_
  refine h B0 S κ G σ H sat.weak W tk _ (bindS sat q fun v vv κ1 G1 H1 S1 sat1 r1 h1 x1 => ?_)
  obtain ⟨a, vs, hσ1, hH1, rl1, put⟩ := sat1.setO1 (ys := xs ++ [v]) he
  rw [hσ] at hσ1
  cases hσ1
  rw [Mon.run_bind, Mon.run_of] at h1
  have h2 : PostS X.K X.mg (Mon.pu m) B0 (M.bind (lift (roomL xs)) (fun a => Mon.run (f v)) S1) enc D W := h1
  unfold M.bind lift roomL at h2
  split at h2
  · rename_i u S2 hu
    split at hu
    · cases hu
      refine ⟨a0, vs, vv, rfl, rfl, hH1, by rw [rl1.length]; assumption, ?_⟩
      exact hr v B0 S1 κ1 G1 σ _ (put _ (rl1.append (.cons r1 .nil))) W tk D h2
    · cases hu
  · rename_i hu
    split at hu <;> cases hu
  · exact h2.elim
/-- x op= e, x a frozen value -/
def ipOf (f : Int → Int → Int) : Val → Val → Res Val
  | .int i, .int j => .ok (.int (f i j))
  | _, _ => .stuck
theorem sx_augI (c : CtxF X N sc k) (i : Nat) {x : Str} {e : Expr} {op : Operator} {fi : Int → Int → Int} {p pos : Pos} {v : Val} {r : m Val} {f : Val → m ρ} (hop : PIp X op (ipI fi)) (hn : Lk N sc i x) (he : E[i]? = some (.fz v)) (hi : i < E.length) (h : Ev X E e r) (hr : ∀ z, Sx X (E.set i (.fz z)) rest Ks (f z) enc) :
    Sx X E (.AugAssign (.Name x p) op e pos :: rest) Ks (r >>= fun y => Mon.of (ipOf fi v y) >>= f) enc := by
  intro B0 S κ G σ H sat W tk D q
  obtain ⟨h1, h2⟩ := hn.n
  refine wss_of (pss_cons (ps_aug (by rw [c.n]; exact c.nd) (by rw [c.n]; exact h1) (by rw [c.sc]; exact h2) pe_self hop (.inl (c.fn _))) (pss_self (e := rest))) ?_
  obtain ⟨_, L, so, _, _⟩ := id sat
  obtain ⟨ov, L1, hσ, ⟨_, u, hu, ru⟩, _⟩ := so.get he
  subst hu
  refine ⟨u, hσ, ?_⟩
  refine h B0 S κ G σ H sat.weak W tk _ (bindS sat q fun y yv κ1 G1 H1 S1 sat1 r1 h1 x1 => ?_)
  have ru1 := ru.mono x1.e.pre x1.e.le
  rw [Mon.run_bind, Mon.run_of] at h1
  have h2 : PostS X.K X.mg (Mon.pu m) B0 (M.bind (lift (ipOf fi v y)) (fun a => Mon.run (f a)) S1) enc D W := h1
  unfold M.bind lift ipOf at h2
  cases v with
  | int a =>
    cases y with
    | int b =>
      rw [rep_int ru1, rep_int r1]
      exact ⟨a, b, rfl, rfl, hr _ B0 S1 κ1 G1 _ H1 (sat1.setFz hi (repI _)) W tk D h2⟩
    | _ => exact h2.elim
  | _ => exact h2.elim
/-! ### x, y = a, b -/
/-- x, y = a new list, e -/
theorem sx_parO (c : Ctx X N sc k) (i j : Nat) {x y : Str} {a b : Expr} {px py pt pos : Pos} {kt k2 pt2} {ra : m (List Val)} {rb : m Val} {f : List Val → Val → m ρ} (hx : Lc N sc i x) (hy : Lc N sc j y) (hij : i ≠ j) (hi : i < E.length) (hj : j < E.length) (ha : Eo X E a ra) (hb : Ev X E b rb)
    (hr : ∀ xs v, Sx X ((E.set i (.o1 xs)).set j (.fz v)) rest Ks (f xs v) enc) (hs : noStars [a, b] = true := by rfl)
    (hw : swappedStores [.Tuple [.Name x px, .Name y py] kt pt] (.Tuple [a, b] k2 pt2) X.env = pure (some [x, y])) (hs2 : swapsWithSole [.Tuple [.Name x px, .Name y py] kt pt] (.Tuple [a, b] k2 pt2) pos.line X.env = pure false) :
    Sx X E (.Assign [.Tuple [.Name x px, .Name y py] kt pt] (.Tuple [a, b] k2 pt2) pos :: rest) Ks (ra >>= fun xs => rb >>= fun v => f xs v) enc := by
  intro B0 S κ G σ H sat W tk D q
  obtain ⟨h1, h2⟩ := hx.n
  obtain ⟨h3, h4⟩ := hy.n
  obtain ⟨s1, s2⟩ := Bool.and_eq_true_iff.mp hs
  obtain ⟨s2, _⟩ := Bool.and_eq_true_iff.mp s2
  refine wss_of (pss_cons (ps_par (i := i) (j := j) c.calm (by rw [c.n]; exact c.nd) (by rw [c.n]; exact h1) (by rw [c.n]; exact h3) hij (by rw [c.sc]; exact h2) (by rw [c.sc]; exact h4) (pa_cons pe_self (pa_cons pe_self pa_nil (star_of s2 _ _)) (star_of s1 _ _)) hw hs2) (pss_self (e := rest))) ?_
  refine ha B0 S κ G σ H sat.weak W tk _ (bindN sat q fun xs p vs κ1 G1 H1 S1 x1 e0 e1 g1 k1 rl hp => ?_)
  have satP := sat.pushO x1 e0 e1 g1 k1 rl
  refine hb B0 S1 κ1 G1 σ H1 satP.tail.weak W tk _ (bindS satP.tail hp fun v vv κ2 G2 H2 S2 sat2 r2 h2 x2 => ?_)
  exact ⟨.ref p, vv, rfl, hr xs v B0 S2 κ2 G2 _ H2 (((satP.ext x2).place hi).setFz (by simpa using hj) r2) W tk D h2⟩
/-- x, y = a, b -/
theorem sx_par (c : Ctx X N sc k) (i j : Nat) {x y : Str} {a b : Expr} {px py pt pos : Pos} {kt k2 pt2} {ra rb : m Val} {f : Val → Val → m ρ} (hx : Lc N sc i x) (hy : Lc N sc j y) (hij : i ≠ j) (hi : i < E.length) (hj : j < E.length) (ha : Ev X E a ra) (hb : Ev X E b rb)
    (hr : ∀ u v, Sx X ((E.set i (.fz u)).set j (.fz v)) rest Ks (f u v) enc) (hs : noStars [a, b] = true := by rfl)
    (hw : swappedStores [.Tuple [.Name x px, .Name y py] kt pt] (.Tuple [a, b] k2 pt2) X.env = pure (some [x, y])) (hs2 : swapsWithSole [.Tuple [.Name x px, .Name y py] kt pt] (.Tuple [a, b] k2 pt2) pos.line X.env = pure false) :
    Sx X E (.Assign [.Tuple [.Name x px, .Name y py] kt pt] (.Tuple [a, b] k2 pt2) pos :: rest) Ks (ra >>= fun u => rb >>= fun v => f u v) enc := by
  intro B0 S κ G σ H sat W tk D q
  obtain ⟨h1, h2⟩ := hx.n
  obtain ⟨h3, h4⟩ := hy.n
  obtain ⟨s1, s2⟩ := Bool.and_eq_true_iff.mp hs
  obtain ⟨s2, _⟩ := Bool.and_eq_true_iff.mp s2
  refine wss_of (pss_cons (ps_par (i := i) (j := j) c.calm (by rw [c.n]; exact c.nd) (by rw [c.n]; exact h1) (by rw [c.n]; exact h3) hij (by rw [c.sc]; exact h2) (by rw [c.sc]; exact h4) (pa_cons pe_self (pa_cons pe_self pa_nil (star_of s2 _ _)) (star_of s1 _ _)) hw hs2) (pss_self (e := rest))) ?_
  refine ha B0 S κ G σ H sat.weak W tk _ (bindS sat q fun u uu κ1 G1 H1 S1 sat1 r1 hp x1 => ?_)
  refine hb B0 S1 κ1 G1 σ H1 sat1.weak W tk _ (bindS sat1 hp fun v vv κ2 G2 H2 S2 sat2 r2 h2 x2 => ?_)
  exact ⟨uu, vv, rfl, hr u v B0 S2 κ2 G2 _ H2 ((sat2.setFz hi (r1.mono x2.e.pre x2.e.le)).setFz (by simpa using hj) r2) W tk D h2⟩
/-- x, y = e, a tuple of two -/
theorem sx_asg2 (c : CtxF X N sc k) (i j : Nat) {x y : Str} {e : Expr} {px py pt pos : Pos} {kt} {r : m Val} {f : Val → Val → m ρ} (hx : Lk N sc i x) (hy : Lk N sc j y) (hi : i < E.length) (hj : j < E.length) (h : Ev X E e r)
    (hr : ∀ u v, Sx X ((E.set i (.fz u)).set j (.fz v)) rest Ks (f u v) enc) (hs : swapsWithSole [.Tuple [.Name x px, .Name y py] kt pt] e pos.line X.env = pure false) (hw : swappedStores [.Tuple [.Name x px, .Name y py] kt pt] e X.env = pure none)
    (h1 : (assignEach [.Tuple [.Name x px, .Name y py] kt pt] X.env).map (·.2) = [assign (.Tuple [.Name x px, .Name y py] kt pt) X.env]) :
    Sx X E (.Assign [.Tuple [.Name x px, .Name y py] kt pt] e pos :: rest) Ks (r >>= fun v => on2 v f) enc := by
  intro B0 S κ G σ H sat W tk D q
  refine wss_of (pss_cons (ps_asg pe_self (pg_tup (n := 2) c.calm (pgs_cons (c.pgk hx) (pgs_cons (c.pgk hy) pgs_nil))) hs hw h1) (pss_self (e := rest))) ?_
  refine h B0 S κ G σ H sat.weak W tk _ (bindS sat q fun v vv κ1 G1 H1 S1 sat1 r1 hp x1 => ?_)
  rcases on2_cases v f with ⟨a, b, e, er⟩ | er
  · rw [er] at hp
    subst e
    obtain ⟨ad, vs, e1, hq, rl⟩ := rep_tup r1
    obtain ⟨va, vb, e2, ra, rb⟩ := repL2 rl
    subst e1 e2
    refine ⟨ad, _, rfl, sat1.w.le.sqT hq, rfl, va, _, rfl, vb, _, rfl, rfl, ?_⟩
    exact hr a b B0 S1 κ1 G1 _ H1 ((sat1.setFz hi ra).setFz (by simpa using hj) rb) W tk D hp
  · rw [er, Mon.run_of] at hp
    exact hp.elim
end
section
variable {X : Cx} {N : List Str} {sc : Scope} {k : Nat} {E : Env} {ρ : Type} {enc : ρ → Out} {rest : List Stmt} {Ks : List (List Stmt)}
/-- o[i], y = e -/
theorem sx_asgCN (c : CtxF X N sc k) (j : Nat) {y : Str} {o i e : Expr} {ps py pt pos : Pos} {kt} {r ro ri : M Val} {f : Val → M ρ} (hy : Lk N sc j y) (hj : j < E.length) (h : Ev X E e r) (ho : Ev X E o ro) (hi : Ev X E i ri)
    (hr : ∀ v, Sx X (E.set j (.fz v)) rest Ks (f v) enc) (hs : swapsWithSole [.Tuple [.Subscript o i ps, .Name y py] kt pt] e pos.line X.env = pure false) (hw : swappedStores [.Tuple [.Subscript o i ps, .Name y py] kt pt] e X.env = pure none)
    (h1 : (assignEach [.Tuple [.Subscript o i ps, .Name y py] kt pt] X.env).map (·.2) = [assign (.Tuple [.Subscript o i ps, .Name y py] kt pt) X.env])
    (hn : (assignEach [.Subscript o i ps, .Name y py] X.env).length = 2) (hst : (assignEach [.Subscript o i ps, .Name y py] X.env).findIdx? (·.1) = none)
    (he1 : (assignEach [.Subscript o i ps, .Name y py] X.env).map (·.2) = assign (.Subscript o i ps) X.env :: (assignEach [.Name y py] X.env).map (·.2))
    (hg : ∀ v, assign (.Subscript o i ps) X.env v = (do
      let ov ← holding [v] (eval o X.env)
      let iv ← holding [v, ov] (eval i X.env)
      standAt ps
      holding [v, ov, iv] (setItem ov iv v)
      release [v, ov, iv] [])) :
    Sx X E (.Assign [.Tuple [.Subscript o i ps, .Name y py] kt pt] e pos :: rest) Ks (r >>= fun v => on2 v fun a b => ro >>= fun x => ri >>= fun j => setM x j a >>= fun _ => f b) enc := by
  intro B0 S κ G σ H sat W tk D q
  refine wss_of (pss_cons (ps_asg pe_self (pg_tup (n := 2) c.calm (pgs_cons (pg_sub pe_self pe_self set_list hg) (pgs_cons (c.pgk hy) pgs_nil) he1) hn hst) hs hw h1) (pss_self (e := rest))) ?_
  refine h B0 S κ G σ H sat W tk _ (bindS sat q fun v vv κ1 G1 H1 S1 sat1 r1 hp x1 => ?_)
  rcases on2_cases v (fun a b => ro >>= fun x => ri >>= fun j => setM x j a >>= fun _ => f b) with ⟨a, b, e, er⟩ | er
  · rw [er] at hp
    subst e
    obtain ⟨ad, vs, e1, hq, rl⟩ := rep_tup r1
    obtain ⟨va, vb, e2, ra, rb⟩ := repL2 rl
    subst e1 e2
    refine ⟨ad, _, rfl, sat1.w.le.sqT hq, rfl, va, _, rfl, ?_⟩
    refine ho B0 S1 κ1 G1 σ H1 sat1 W tk _ (bindS sat1 hp fun x xv κ2 G2 H2 S2 sat2 r2 h2 x2 => ?_)
    refine hi B0 S2 κ2 G2 σ H2 sat2 W tk _ (bindS sat2 h2 fun jj jv κ3 G3 H3 S3 sat3 r3 h3 x3 => ?_)
    refine set_cell sat3 (r2.mono x3.e.pre x3.e.le) r3 ((ra.mono x2.e.pre x2.e.le).mono x3.e.pre x3.e.le) h3 fun H' S' sat' h' => ?_
    exact ⟨vb, _, rfl, rfl, hr b B0 S' κ3 G3 _ H' (sat'.setFz hj ((rb.mono x2.e.pre x2.e.le).mono x3.e.pre x3.e.le)) W tk D h'⟩
  · rw [er, Mon.run_of] at hp
    exact hp.elim
/-- [..], a new cell -/
def newC (xs : List Val) : M Val := fun S => if xs.length ≤ sizeLine then (.ok (.cell S.length), S ++ [.lst xs]) else (.stuck, S)
theorem ev_lstC {es : List Expr} {pos : Pos} {rs : M (List Val)} (h : Ea X E es rs) : Ev X E (.List es pos) (rs >>= fun xs => newC xs) := by
  intro B0 S κ G σ H sat W tk Q q
  refine we_of (pe_lst pa_self) ?_
  refine h B0 S κ G σ H sat W tk _ (bindW q fun xs vs κ1 G1 H1 S1 e1 r1 h1 => ?_)
  have h2 : Post X.K X.mg false (Rep X.K X.mg) κ1 G1 H1 S1 (if xs.length ≤ sizeLine then (.ok (.cell S1.length), S1 ++ [.lst xs]) else (.stuck, S1)) Q (fun c d H' => W c d σ H') := h1
  split at h2
  · refine ⟨by rw [r1.length]; assumption, fun p hp => ?_⟩
    have x := e1.e.w.cellnew (c := .lst xs) (o := .lst vs) hp ⟨vs, upd_same, r1⟩
    refine h2 _ _ _ (.ref p) x ?_
    unfold Rep
    exact ⟨p, by rw [← e1.e.w.len]; simp, rfl⟩
  · exact h2.elim
end
end Tv

/-! dicts -/
namespace Tv
open PySem PySem.Spec PyProof.Rows L2

def kyV : Key → Val
  | .inl i => .int i
  | .inr x => .str x
def asKey : Val → Option Key
  | .int i => some (.inl i)
  | .str x => some (.inr x)
  | _ => none
def valD (kvs : List (Key × Val)) (k : Key) : Option Val := (kvs.find? fun kv => decide (kv.1 = k)).map (·.2)
def hasD (kvs : List (Key × Val)) (k : Key) : Bool := kvs.any fun kv => decide (kv.1 = k)
def putD (kvs : List (Key × Val)) (k : Key) (v : Val) : List (Key × Val) :=
  if hasD kvs k = true then kvs.map (fun kv => if kv.1 = k then (kv.1, v) else kv) else kvs ++ [(k, v)]
section
variable {K : PySem.W.Frag} {mg : Str → Option Value} {κ : List Addr} {G H : Hp}
theorem kyV_rep (k : Key) : Rep K mg κ G (kyV k) (kV k) := by cases k <;> (unfold Rep; rfl)
theorem asKey_rep {x : Val} {k : Key} {v : V} (h : asKey x = some k) (r : Rep K mg κ G x v) : v = kV k := by
  cases x with
  | int i => cases h; rw [rep_int r]; rfl
  | str i => cases h; rw [rep_str r]; rfl
  | _ => cases h
theorem RepD.nil : RepD K mg κ G [] [] := by unfold RepD; rfl
theorem RepD.cons {k : Key} {x : Val} {v : V} {xs : List (Key × Val)} {vs : List (Key × V)} (h : Rep K mg κ G x v) (t : RepD K mg κ G xs vs) : RepD K mg κ G ((k, x) :: xs) ((k, v) :: vs) := by
  unfold RepD; exact ⟨v, vs, rfl, h, t⟩
theorem RepD.append : ∀ {xs ys : List (Key × Val)} {vs ws : List (Key × V)}, RepD K mg κ G xs vs → RepD K mg κ G ys ws → RepD K mg κ G (xs ++ ys) (vs ++ ws)
  | [], _, _, _, h, h' => by unfold RepD at h; subst h; exact h'
  | y :: xs, _, _, _, h, h' => by
    unfold RepD at h
    obtain ⟨v, r, e', q, t⟩ := h
    subst e'
    exact RepD.cons q (RepD.append t h')
theorem RepD.any {k : Key} : ∀ {xs : List (Key × Val)} {vs : List (Key × V)}, RepD K mg κ G xs vs → (vs.any fun kv => decide (kv.1 = k)) = hasD xs k
  | [], _, h => by unfold RepD at h; subst h; rfl
  | y :: xs, _, h => by
    unfold RepD at h
    obtain ⟨v, r, e', q, t⟩ := h
    subst e'
    unfold hasD
    rw [List.any_cons, List.any_cons, RepD.any t]
    rfl
theorem RepD.upd1 {k : Key} {x : Val} {v : V} (rv : Rep K mg κ G x v) : ∀ {xs : List (Key × Val)} {vs : List (Key × V)}, RepD K mg κ G xs vs → RepD K mg κ G (xs.map (fun kv => if kv.1 = k then (kv.1, x) else kv)) (vs.map (fun kv => if kv.1 = k then (kv.1, v) else kv))
  | [], _, h => by unfold RepD at h; subst h; exact .nil
  | y :: xs, _, h => by
    unfold RepD at h
    obtain ⟨w, r, e', q, t⟩ := h
    subst e'
    rw [List.map_cons, List.map_cons]
    by_cases e : y.1 = k
    · rw [if_pos e, if_pos e]; exact RepD.cons rv (RepD.upd1 rv t)
    · rw [if_neg e, if_neg e]; obtain ⟨k', x'⟩ := y; exact RepD.cons q (RepD.upd1 rv t)
theorem RepD.put {k : Key} {x : Val} {v : V} {xs : List (Key × Val)} {vs : List (Key × V)} (h : RepD K mg κ G xs vs) (rv : Rep K mg κ G x v) : RepD K mg κ G (putD xs k x) (putK vs k v) := by
  unfold putD putK
  rw [h.any]
  split
  · exact h.upd1 rv
  · exact h.append (.cons rv .nil)
theorem RepD.val {k : Key} : ∀ {xs : List (Key × Val)} {vs : List (Key × V)}, RepD K mg κ G xs vs → (∃ x v, valD xs k = some x ∧ valV vs k = some v ∧ Rep K mg κ G x v) ∨ (valD xs k = none ∧ valV vs k = none)
  | [], _, h => by unfold RepD at h; subst h; exact .inr ⟨rfl, rfl⟩
  | y :: xs, _, h => by
    unfold RepD at h
    obtain ⟨w, r, e', q, t⟩ := h
    subst e'
    unfold valD valV
    by_cases e : y.1 = k
    · rw [List.find?_cons_of_pos (by simpa using e), List.find?_cons_of_pos (by simpa using e)]
      exact .inl ⟨_, _, rfl, rfl, q⟩
    · rw [List.find?_cons_of_neg (by simpa using e), List.find?_cons_of_neg (by simpa using e)]
      exact RepD.val t
theorem RepD.get : ∀ {xs : List (Key × Val)} {vs : List (Key × V)}, RepD K mg κ G xs vs → ∀ {i : Nat} {k : Key} {v : V}, vs[i]? = some (k, v) → ∃ x, xs[i]? = some (k, x) ∧ Rep K mg κ G x v
  | [], _, h, i, k, v, e => by unfold RepD at h; subst h; simp at e
  | y :: xs, _, h, 0, k, v, e => by
    unfold RepD at h
    obtain ⟨w, r, e', q, t⟩ := h
    subst e'
    simp at e
    obtain ⟨e1, e2⟩ := e
    subst e1 e2
    exact ⟨y.2, rfl, q⟩
  | y :: xs, _, h, i + 1, k, v, e => by
    unfold RepD at h
    obtain ⟨w, r, e', q, t⟩ := h
    subst e'
    simpa using RepD.get t (i := i) (by simpa using e)
theorem rep_dic {xs : List (Key × Val)} {v : V} (h : Rep K mg κ G (.dic xs) v) : ∃ a vs, v = .ref a ∧ Rd G a (.dK vs) ∧ RepD K mg κ G xs vs := by unfold Rep at h; exact h
/-- a slot takes a fresh thing -/
theorem Sat.takeS {K : PySem.W.Frag} {mg : Str → Option Value} {p : Bool} {B0 : Bs} {κ κ1 : List Addr} {G G1 H H1 : Hp} {S S1 : Cells} {σ : L2.St} {E : Env} {a : Addr} {s : Slot} {i : Nat} (sat : Sat K mg p B0 E S κ G σ H) (x : ExtB K mg p κ G H S κ1 G1 H1 S1) (h0 : H a = none) (h1 : H1 a ≠ none) (g1 : G1 a = none) (k1 : a ∉ κ1)
    (so' : SlotOk K mg κ1 G1 H1 s (some (.ref a)) [a]) (hi : i < E.length) : Sat K mg p B0 (E.set i s) S1 κ1 G1 (σ.set i (some (.ref a))) H1 := by
  have b0 : B0.H a = none := sat.1.x.fresh h0
  obtain ⟨x0, L, so, nd, q⟩ := sat
  have e := x.e
  have so1 := so.mono (κ1 := κ1) (G1 := G1) (H1 := H1) e.pre e.le fun a m => by
    obtain ⟨_, _, n, t⟩ := q a m
    cases z : H a with
    | none => exact absurd z t
    | some o => exact e.keep a o z n
  have q1 : ∀ a ∈ L, B0.H a = none ∧ G1 a = none ∧ a ∉ κ1 ∧ H1 a ≠ none := fun a m => by
    obtain ⟨q1, q2, q3, q4⟩ := q a m
    refine ⟨q1, e.newG a q4 q2, fun z => q4 (e.newC a z q3), fun z => ?_⟩
    cases y : H a with
    | none => exact q4 y
    | some o => rw [e.keep a o y q3] at z; cases z
  have al : a ∉ L := fun m => (q a m).2.2.2 h0
  obtain ⟨L2, s2, n2, m2⟩ := so1.set (i := i) (s := s) (ov := some (.ref a)) (L1 := [a]) hi so'
  refine ⟨x0.trans x, L2, s2, n2 (fun c m => by rw [List.mem_singleton.mp m]; exact al) (List.pairwise_singleton _ _) nd, fun c m => ?_⟩
  rcases m2 c m with m | m
  · exact q1 c m
  · rw [List.mem_singleton.mp m]
    exact ⟨b0, g1, k1, h1⟩
/-- .. ahead of the slots -/
theorem Sat.pushS {K : PySem.W.Frag} {mg : Str → Option Value} {p : Bool} {B0 : Bs} {κ : List Addr} {G H : Hp} {S : Cells} {σ : L2.St} {E : Env} {a : Addr} {s : Slot} {o : HO} (sat : Sat K mg p B0 E S κ G σ H) (h0 : H a = none) (so' : SlotOk K mg κ G (L2.upd H a o) s (some (.ref a)) [a]) : Sat K mg p B0 (s :: E) S κ G (some (.ref a) :: σ) (L2.upd H a o) := by
  have b0 : B0.H a = none := sat.1.x.fresh h0
  obtain ⟨gp, kp⟩ := freshG sat.w h0
  obtain ⟨x0, L, so, nd, q⟩ := sat
  have al : a ∉ L := fun m => (q a m).2.2.2 h0
  refine ⟨x0.own b0 gp kp, a :: L, ⟨_, σ, [a], L, rfl, rfl, so', so.mono (Pre.refl _) (Le.refl _) fun c m => upd_ne fun e => al (e ▸ m)⟩, List.nodup_cons.mpr ⟨al, nd⟩, fun c m => ?_⟩
  rcases List.mem_cons.mp m with m | m
  · rw [m]; exact ⟨b0, gp, kp, by rw [upd_same]; exact fun z => nomatch z⟩
  · obtain ⟨q1, q2, q3, q4⟩ := q c m
    exact ⟨q1, q2, q3, by rw [upd_ne (show c ≠ a from fun e => al (e ▸ m))]; exact q4⟩
theorem od_uniq {S : Cells} {xs : List (Key × Val)} {ov : Option V} {L L' : List Addr} (h : SlotOk K mg κ G H (.od xs) ov L) (h' : SlotOk K mg κ G H (.od xs) ov L') : L' = L := by
  obtain ⟨a, vs, e, e1, _⟩ := h
  obtain ⟨a', vs', e', e1', _⟩ := h'
  subst e e' e1
  cases e1'
  rfl
theorem Sat.setOD {K : PySem.W.Frag} {mg : Str → Option Value} {p : Bool} {B0 : Bs} {κ : List Addr} {G H : Hp} {S : Cells} {σ : L2.St} {E : Env} (h : Sat K mg p B0 E S κ G σ H) {i : Nat} {xs ys : List (Key × Val)} (he : E[i]? = some (.od xs)) :
    ∃ a vs, σ[i]? = some (some (.ref a)) ∧ H a = some (.dK vs) ∧ RepD K mg κ G xs vs ∧ Sat K mg p B0 (E.set i (.od xs)) S κ G σ H ∧ (∀ ws, RepD K mg κ G ys ws → Sat K mg p B0 (E.set i (.od ys)) S κ G σ (L2.upd H a (.dK ws))) := by
  have e0 : E.set i (.od xs) = E := by
    obtain ⟨hi, e⟩ := List.getElem?_eq_some_iff.mp he
    rw [← e, List.set_getElem_self]
  rw [e0]
  have hs := h
  obtain ⟨x, L, so, nd, q⟩ := h
  obtain ⟨ov, L1, h1, h2, h3⟩ := so.get he
  obtain ⟨a, vs, e1, e2, e3, e4⟩ := id h2
  subst e1 e2
  have ha := q a (h3 a (by simp))
  refine ⟨a, vs, h1, e3, e4, hs, fun ws rw_ => ?_⟩
  obtain ⟨so2, _⟩ := so.own nd he h1 h2 (s' := .od ys) (H' := L2.upd H a (.dK ws)) ⟨a, ws, rfl, rfl, upd_same, rw_⟩ (fun c hc => upd_ne (fun e => hc (by simp [e]))) (fun L' h' => od_uniq (S := S) h2 h')
  refine ⟨x.own ha.1 ha.2.1 ha.2.2.1, L, so2, nd, fun c hc => ?_⟩
  obtain ⟨q1, q2, q3, q4⟩ := q c hc
  refine ⟨q1, q2, q3, ?_⟩
  by_cases e : c = a
  · subst e; rw [upd_same]; exact fun z => nomatch z
  · rw [upd_ne e]; exact q4
end

section
variable {X : Cx} {N : List Str} {sc : Scope} {k : Nat} {E : Env} {m : Type → Type} [Mon m] {ρ : Type} {enc : ρ → Out} {rest : List Stmt} {Ks : List (List Stmt)}
/-- x = {} -/
theorem sx_dict0 (c : CtxF X N sc k) (i : Nat) {x : Str} {p p2 pos : Pos} {r : m ρ} (hl : Lk N sc i x) (hi : i < E.length) (hr : Sx X (E.set i (.od [])) rest Ks r enc) :
    Sx X E (.Assign [.Name x p] (.Dict [] [] p2) pos :: rest) Ks r enc := by
  intro B0 S κ G σ H sat W tk D q
  obtain ⟨h1, h2⟩ := hl.n
  refine wss_of (pss_cons (ps_set (i := i) (by rw [c.n]; exact c.nd) (by rw [c.n]; exact h1) (by rw [c.sc]; exact h2) pe_dnewK (swaps_of rfl _ _ _) (.inl (c.fn _))) (pss_self (e := rest))) ?_
  intro p hp
  have s2 := sat.pushS (s := .od []) (o := .dK []) hp ⟨p, [], rfl, rfl, upd_same, .nil⟩
  exact hr B0 S κ G _ _ (s2.place hi) W tk D q
/-- x = {k: e} -/
theorem sx_dict1 (c : CtxF X N sc k) (i : Nat) {x : Str} {ke e : Expr} {p p2 pos : Pos} {rk re : m Val} {f : List (Key × Val) → m ρ} (hl : Lk N sc i x) (hi : i < E.length) (hk : Ev X E ke rk) (he : Ev X E e re) (hr : ∀ kvs, Sx X (E.set i (.od kvs)) rest Ks (f kvs) enc) :
    Sx X E (.Assign [.Name x p] (.Dict [some ke] [e] p2) pos :: rest) Ks (rk >>= fun a => re >>= fun v => Mon.of (match asKey a with | some j => .ok [(j, v)] | none => .stuck) >>= f) enc := by
  intro B0 S κ G σ H sat W tk D q
  obtain ⟨h1, h2⟩ := hl.n
  refine wss_of (pss_cons (ps_set (i := i) (by rw [c.n]; exact c.nd) (by rw [c.n]; exact h1) (by rw [c.sc]; exact h2) (pe_disp (pps_cons pe_self pe_self pps_nil) rfl rfl (by simp) (by simp)) (swaps_of rfl _ _ _) (.inl (c.fn _))) (pss_self (e := rest))) ?_
  intro p hp
  have s2 := sat.pushS (s := .od []) (o := .dK []) hp ⟨p, [], rfl, rfl, upd_same, .nil⟩
  refine hk B0 S κ G σ _ s2.tail.weak W tk _ (bindS s2.tail q fun a av κ1 G1 H1 S1 sat1 r1 hq1 x1 => ?_)
  refine he B0 S1 κ1 G1 σ _ sat1.weak W tk _ (bindS sat1 hq1 fun v vv κ2 G2 H2 S2 sat2 r2 hq2 x2 => ?_)
  have s3 := (s2.ext x1).ext x2
  obtain ⟨a0, vs0, hσ, hH, rl, _, put⟩ := s3.setOD (i := 0) (xs := []) (ys := match asKey a with | some j => [(j, v)] | none => []) rfl
  cases hσ
  unfold RepD at rl
  subst rl
  rw [Mon.run_bind, Mon.run_of] at hq2
  cases ka : asKey a with
  | none => simp only [ka] at hq2; exact hq2.elim
  | some j =>
    simp only [ka] at hq2 put
    refine ⟨hH, [(j, vv)], ?_, by simp, ?_⟩
    · rw [asKey_rep ka (r1.mono x2.e.pre x2.e.le)]; rfl
    · have s4 := put [(j, vv)] (.cons r2 .nil)
      exact hr _ B0 S2 κ2 G2 _ _ (Sat.place (E := E) s4 hi) W tk D hq2
/-- the room for one key more -/
def keyR (kvs : List (Key × Val)) (a : Val) : Res Key := match asKey a with
  | some k => if kvs.length < sizeLine then .ok k else .stuck
  | none => .stuck
theorem keyR_cases (kvs : List (Key × Val)) (a : Val) : (∃ k, asKey a = some k ∧ kvs.length < sizeLine ∧ keyR kvs a = .ok k) ∨ keyR kvs a = .stuck := by
  unfold keyR
  split
  · split
    · exact .inl ⟨_, by assumption, by assumption, rfl⟩
    · exact .inr rfl
  · exact .inr rfl
def setdD (kvs : List (Key × Val)) (k : Key) (v : Val) : List (Key × Val) := if (valD kvs k).isSome then kvs else putD kvs k v
/-- x.setdefault(k, e) -/
theorem sx_setd (c : Ctx X N sc k) (i : Nat) {x : Str} {ke e : Expr} {p ap cp pos : Pos} {kvs : List (Key × Val)} {rk re : m Val} {f : Key → Val → m ρ} (hn : Nm N sc i x) (hE : E[i]? = some (.od kvs)) (hk : Ev X E ke rk) (he : Ev X E e re)
    (hr : ∀ j v, Sx X (E.set i (.od (setdD kvs j v))) rest Ks (f j v) enc) (hs : noStars [ke, e] = true := by rfl) (hl : (ap.endLine == cp.line) = true := by rfl) :
    Sx X E (.Expr (.Call (.Attribute (.Name x p) "setdefault" ap) [ke, e] [] cp) pos :: rest) Ks (rk >>= fun a => re >>= fun v => Mon.of (keyR kvs a) >>= fun j => f j v) enc := by
  intro B0 S κ G σ H sat W tk D q
  obtain ⟨s1, s2⟩ := Bool.and_eq_true_iff.mp hs
  obtain ⟨s2, _⟩ := Bool.and_eq_true_iff.mp s2
  have tr : starEach [ke, e] X.env = [(false, eval ke X.env), (false, eval e X.env)] := by rw [star_of s1, star_of s2]; rfl
  refine wss_of (pss_cons (ps_expr (pe_dsetd (c.pv hn) pe_self pe_self ⟨rfl, by rw [tr]; rfl, hl, by rw [tr]; rfl⟩) rfl) (pss_self (e := rest))) ?_
  obtain ⟨a0, vs0, hσ, hH, rl, _, _⟩ := sat.setOD (ys := kvs) hE
  refine ⟨.ref a0, hσ, a0, rfl, .inl ⟨vs0, .inl hH⟩, ?_⟩
  refine hk B0 S κ G σ H sat.weak W tk _ (bindS sat q fun a av κ1 G1 H1 S1 sat1 r1 hq1 x1 => ?_)
  refine he B0 S1 κ1 G1 σ H1 sat1.weak W tk _ (bindS sat1 hq1 fun v vv κ2 G2 H2 S2 sat2 r2 hq2 x2 => ?_)
  rw [Mon.run_bind, Mon.run_of] at hq2
  rcases keyR_cases kvs a with ⟨j, hj, hz, e⟩ | e
  · rw [e] at hq2
    have hq2 : PostS X.K X.mg (Mon.pu m) B0 (Mon.run (f j v) S2) enc D W := hq2
    obtain ⟨a1, vs, hσ1, hH1, rl1, same, put⟩ := sat2.setOD (ys := putD kvs j v) hE
    rw [hσ] at hσ1
    cases hσ1
    have go := hr j v
    refine ⟨vs, j, hH1, asKey_rep hj (r1.mono x2.e.pre x2.e.le), by rw [rl1.length]; exact hz, fun u hu => ?_, fun hu => ?_⟩
    · rcases rl1.val (k := j) with ⟨y, w, e1, e2, _⟩ | ⟨e1, e2⟩
      · have : setdD kvs j v = kvs := by unfold setdD; rw [e1]; rfl
        rw [this] at go
        exact go B0 S2 κ2 G2 σ H2 same W tk D hq2
      · rw [e2] at hu; cases hu
    · rcases rl1.val (k := j) with ⟨y, w, e1, e2, _⟩ | ⟨e1, e2⟩
      · rw [e2] at hu; cases hu
      · have : setdD kvs j v = putD kvs j v := by unfold setdD; rw [e1]; rfl
        rw [this] at go
        exact go B0 S2 κ2 G2 σ _ (put _ (rl1.put r2)) W tk D hq2
  · rw [e] at hq2; exact hq2.elim
end
end Tv

/-! dicts: frozen, walked, looked up -/
namespace Tv
open PySem PySem.Spec PyProof.Rows L2

section
variable {K : PySem.W.Frag} {mg : Str → Option Value} {b : Bool} {B0 : Bs} {κ : List Addr} {G H : Hp} {S : Cells} {E : Env} {σ : L2.St}
/-- a slot's own thing is let go into the frozen part -/
theorem Sat.freezeS (h : Sat K mg b B0 E S κ G σ H) {i : Nat} {s : Slot} {y : Val} {a : Addr} {o : HO} (he : E[i]? = some s) (hσ : σ[i]? = some (some (.ref a))) (ho : ∀ L1, SlotOk K mg κ G H s (some (.ref a)) L1 → L1 = [a]) (ha : H a = some o)
    (hr : ∀ G', Le G G' → G' a = some o → ∀ L1, SlotOk K mg κ G H s (some (.ref a)) L1 → Rep K mg κ G' y (.ref a)) : Sat K mg b B0 (E.set i (.fz y)) S κ (L2.upd G a o) σ H := by
  obtain ⟨x, L, so, nd, q⟩ := h
  obtain ⟨ov, L1, h1, h2, h3⟩ := so.get he
  rw [hσ] at h1
  cases h1
  have e1 := ho L1 h2
  subst e1
  obtain ⟨q1, q2, q3, q4⟩ := q a (h3 a (by simp))
  obtain ⟨x2, lg⟩ := x.freeze q1 q2 q3 ha
  have ry := hr _ lg upd_same _ h2
  have so2 := so.mono (H1 := H) (Pre.refl κ) lg fun _ _ => rfl
  have key : ∀ {E : Env} {σ : L2.St} {L : List Addr} {i : Nat}, SlotsOk K mg κ (L2.upd G a o) H E σ L → SlotsOk K mg κ G H E σ L → L.Nodup → E[i]? = some s → σ[i]? = some (some (.ref a)) →
      ∃ LL, SlotsOk K mg κ (L2.upd G a o) H (E.set i (.fz y)) σ LL ∧ LL.Nodup ∧ (∀ c ∈ LL, c ∈ L) ∧ a ∉ LL := by
    intro E
    induction E with
    | nil => intro σ L i _ _ _ e; simp at e
    | cons s0 E ih =>
      intro σ L i so so0 nd e eo
      obtain ⟨ov, r, L1, Lr, z1, z2, g1, g2⟩ := so0
      subst z1 z2
      obtain ⟨n1, n2, n3⟩ := List.nodup_append.mp nd
      cases i with
      | zero =>
        simp at e eo; subst e eo
        have := ho L1 g1
        subst this
        have g2' := g2.mono (H1 := H) (Pre.refl κ) lg fun _ _ => rfl
        exact ⟨Lr, ⟨some (.ref a), r, [], Lr, rfl, rfl, ⟨rfl, _, rfl, ry⟩, g2'⟩, n2, fun c m => by simp [m], fun m => n3 a (by simp) a m rfl⟩
      | succ i =>
        have g2' := g2.mono (H1 := H) (Pre.refl κ) lg fun _ _ => rfl
        obtain ⟨L3, w1, w2, w3, w4⟩ := ih g2' g2 n2 (by simpa using e) (by simpa using eo)
        have am : a ∈ Lr := by
          obtain ⟨ov', L', p1, p2, p3⟩ := g2.get (i := i) (by simpa using e)
          have z : ov' = some (.ref a) := by
            have t : r[i]? = some (some (.ref a)) := by simpa using eo
            rw [p1] at t
            exact Option.some.inj t
          rw [z] at p2
          have := ho L' p2
          subst this
          exact p3 a (by simp)
        have g1' := g1.mono (H1 := H) (Pre.refl κ) lg fun _ _ => rfl
        refine ⟨L1 ++ L3, ⟨ov, r, L1, L3, rfl, rfl, g1', w1⟩, List.nodup_append.mpr ⟨n1, w2, fun c m d m' e' => n3 c m d (w3 d m') e'⟩, fun c m => ?_, fun m => ?_⟩
        · rcases List.mem_append.mp m with m | m
          · simp [m]
          · simp [w3 c m]
        · rcases List.mem_append.mp m with m | m
          · exact n3 a m a am rfl
          · exact w4 m
  obtain ⟨LL, s2, n2, m2, na⟩ := key so2 so nd he hσ
  refine ⟨x2, LL, s2, n2, fun c m => ?_⟩
  obtain ⟨p1, p2, p3, p4⟩ := q c (m2 c m)
  exact ⟨p1, by rw [upd_ne (show c ≠ a from fun e => na (e ▸ m))]; exact p2, p3, p4⟩
theorem Sat.freezeD (h : Sat K mg b B0 E S κ G σ H) {i : Nat} {kvs : List (Key × Val)} (he : E[i]? = some (.od kvs)) : ∃ G', Sat K mg b B0 (E.set i (.fz (.dic kvs))) S κ G' σ H := by
  obtain ⟨a, vs, hσ, hH, rl, _, _⟩ := h.setOD (ys := kvs) he
  refine ⟨_, h.freezeS (y := .dic kvs) he hσ (fun L1 h1 => ?_) hH fun G' lg hg L1 h1 => ?_⟩
  · obtain ⟨a', vs', e, e1, _⟩ := h1
    cases e1
    exact e
  · unfold Rep
    exact ⟨a, vs, rfl, .inl hg, rl.mono (Pre.refl _) lg⟩

/-! ### the same thing, locked or not -/
def sw (a : Addr) (y : HO) (G : Hp) : Hp := fun c => if c = a then (match G a with | none => none | some _ => some y) else G c
theorem sw_ne {a c : Addr} {y : HO} {G : Hp} (h : c ≠ a) : sw a y G c = G c := by unfold sw; rw [if_neg h]
theorem sw_none {a c : Addr} {y : HO} {G : Hp} : sw a y G c = none ↔ G c = none := by
  unfold sw
  by_cases h : c = a
  · subst h
    rw [if_pos rfl]
    cases G c <;> simp
  · rw [if_neg h]
theorem sw_same {a : Addr} {y o : HO} {G : Hp} (h : G a = some o) : sw a y G a = some y := by unfold sw; rw [if_pos rfl, h]
theorem sw_le {a : Addr} {y : HO} {G G' : Hp} (h : Le G G') : Le (sw a y G) (sw a y G') := fun c o e => by
  by_cases hc : c = a
  · subst hc
    cases q : G c with
    | none => rw [sw_none.mpr q] at e; cases e
    | some o' => rw [sw_same q] at e; cases e; exact sw_same (h _ _ q)
  · rw [sw_ne hc] at e ⊢; exact h _ _ e
theorem sw_upd {a : Addr} {y o : HO} {H : Hp} (h : H a = some o) : sw a y H = L2.upd H a y := by
  funext c
  by_cases hc : c = a
  · subst hc; rw [sw_same h, upd_same]
  · rw [sw_ne hc, upd_ne hc]
theorem sw_sw {a : Addr} {y z : HO} {G : Hp} : sw a z (sw a y G) = sw a z G := by
  funext c
  by_cases hc : c = a
  · subst hc
    cases q : G c with
    | none => rw [sw_none.mpr (sw_none.mpr q), sw_none.mpr q]
    | some o => rw [sw_same (sw_same q), sw_same q]
  · rw [sw_ne hc, sw_ne hc, sw_ne hc]
theorem sw_id {a : Addr} {y : HO} {G : Hp} (h : ∀ o, G a = some o → o = y) : sw a y G = G := by
  funext c
  by_cases hc : c = a
  · subst hc
    cases q : G c with
    | none => exact sw_none.mpr q
    | some o => rw [sw_same q, h o q]
  · exact sw_ne hc
/-- both are the dict vs -/
def IsDk (vs : List (Key × V)) (o : HO) : Prop := o = .dK vs ∨ ∃ ob, o = .frz ob (.dK vs)
section
variable {a : Addr} {y : HO} {ds : List (Key × V)}
theorem sw_sqT (hy : ∀ o, G a = some o → IsDk ds o) {c : Addr} {vs : List V} (h : SqT K G c vs) : SqT K (sw a y G) c vs := by
  rcases h with (h | ⟨o, h⟩) | h
  · by_cases hc : c = a
    · subst hc
      rcases hy _ h with e | ⟨_, e⟩ <;> cases e
    · exact .inl (.inl (by rw [sw_ne hc]; exact h))
  · by_cases hc : c = a
    · subst hc
      rcases hy _ h with e | ⟨_, e⟩ <;> cases e
    · exact .inl (.inr ⟨o, by rw [sw_ne hc]; exact h⟩)
  · exact .inr h
theorem sw_sqL (hy : ∀ o, G a = some o → IsDk ds o) {c : Addr} {vs : List V} (h : SqL K G c vs) : SqL K (sw a y G) c vs := by
  rcases h with (h | ⟨o, h⟩) | h
  · by_cases hc : c = a
    · subst hc
      rcases hy _ h with e | ⟨_, e⟩ <;> cases e
    · exact .inl (.inl (by rw [sw_ne hc]; exact h))
  · by_cases hc : c = a
    · subst hc
      rcases hy _ h with e | ⟨_, e⟩ <;> cases e
    · exact .inl (.inr ⟨o, by rw [sw_ne hc]; exact h⟩)
  · exact .inr h
theorem sw_one (hy : ∀ o, G a = some o → IsDk ds o) {c : Addr} {o : HO} (ho : ¬ IsDk ds o) (h : G c = some o) : sw a y G c = some o := by
  by_cases hc : c = a
  · subst hc; exact absurd (hy _ h) ho
  · rw [sw_ne hc]; exact h
theorem sw_rd (hy : ∀ o, G a = some o → IsDk ds o) (h2 : IsDk ds y) {c : Addr} {vs : List (Key × V)} (h : Rd G c (.dK vs)) : Rd (sw a y G) c (.dK vs) := by
  by_cases hc : c = a
  · subst hc
    have e : vs = ds ∧ ∃ o, G c = some o := by
      rcases h with h | ⟨o, h⟩
      · rcases hy _ h with e | ⟨_, e⟩ <;> cases e
        exact ⟨rfl, _, h⟩
      · rcases hy _ h with e | ⟨_, e⟩ <;> cases e
        exact ⟨rfl, _, h⟩
    obtain ⟨e1, o, e2⟩ := e
    subst e1
    rcases h2 with e | ⟨ob, e⟩
    · exact .inl (by rw [sw_same e2, e])
    · exact .inr ⟨ob, by rw [sw_same e2, e]⟩
  · rcases h with h | ⟨o, h⟩
    · exact .inl (by rw [sw_ne hc]; exact h)
    · exact .inr ⟨o, by rw [sw_ne hc]; exact h⟩
theorem nd_lst {xs : List V} : ¬ IsDk ds (.lst xs) := fun h => by rcases h with e | ⟨_, e⟩ <;> cases e
theorem nd_ins {C dx : Addr} {fs : List (Str × V)} : ¬ IsDk ds (.ins C dx fs) := fun h => by rcases h with e | ⟨_, e⟩ <;> cases e
mutual
theorem Rep.sw (hy : ∀ o, G a = some o → IsDk ds o) (h2 : IsDk ds y) : ∀ {x : Val} {v : V}, Rep K mg κ G x v → Rep K mg κ (Tv.sw a y G) x v
  | .non, _, h => by unfold Rep at h ⊢; exact h
  | .bl _, _, h => by unfold Rep at h ⊢; exact h
  | .int _, _, h => by unfold Rep at h ⊢; exact h
  | .str _, _, h => by unfold Rep at h ⊢; exact h
  | .tup xs, _, h => by
    unfold Rep at h ⊢
    obtain ⟨c, vs, e, q, r⟩ := h
    exact ⟨c, vs, e, sw_sqT hy q, RepL.sw hy h2 r⟩
  | .lst xs, _, h => by
    unfold Rep at h ⊢
    obtain ⟨c, vs, e, q, r⟩ := h
    exact ⟨c, vs, e, sw_one hy nd_lst q, RepL.sw hy h2 r⟩
  | .dic xs, _, h => by
    unfold Rep at h ⊢
    obtain ⟨c, vs, e, q, r⟩ := h
    exact ⟨c, vs, e, sw_rd hy h2 q, RepD.sw hy h2 r⟩
  | .obj _ xs, _, h => by
    unfold Rep at h ⊢
    obtain ⟨c, Ca, dx, vs, e, cc, q, r⟩ := h
    exact ⟨c, Ca, dx, vs, e, cc, sw_one hy nd_ins q, RepF.sw hy h2 r⟩
  | .cell _, _, h => by unfold Rep at h ⊢; exact h
  | .scr xs, _, h => by
    unfold Rep at h ⊢
    obtain ⟨c, vs, e, q, r⟩ := h
    exact ⟨c, vs, e, sw_sqL hy q, RepL.sw hy h2 r⟩
theorem RepL.sw (hy : ∀ o, G a = some o → IsDk ds o) (h2 : IsDk ds y) : ∀ {xs : List Val} {vs : List V}, RepL K mg κ G xs vs → RepL K mg κ (Tv.sw a y G) xs vs
  | [], _, h => by unfold RepL at h ⊢; exact h
  | x :: xs, _, h => by
    unfold RepL at h ⊢
    obtain ⟨v, r, e, q, t⟩ := h
    exact ⟨v, r, e, Rep.sw hy h2 q, RepL.sw hy h2 t⟩
theorem RepD.sw (hy : ∀ o, G a = some o → IsDk ds o) (h2 : IsDk ds y) : ∀ {xs : List (Key × Val)} {vs : List (Key × V)}, RepD K mg κ G xs vs → RepD K mg κ (Tv.sw a y G) xs vs
  | [], _, h => by unfold RepD at h ⊢; exact h
  | x :: xs, _, h => by
    unfold RepD at h ⊢
    obtain ⟨v, r, e, q, t⟩ := h
    exact ⟨v, r, e, Rep.sw hy h2 q, RepD.sw hy h2 t⟩
theorem RepF.sw (hy : ∀ o, G a = some o → IsDk ds o) (h2 : IsDk ds y) : ∀ {xs : List (Str × Val)} {vs : List (Str × V)}, RepF K mg κ G xs vs → RepF K mg κ (Tv.sw a y G) xs vs
  | [], _, h => by unfold RepF at h ⊢; exact h
  | x :: xs, _, h => by
    unfold RepF at h ⊢
    obtain ⟨v, r, e, q, t⟩ := h
    exact ⟨v, r, e, Rep.sw hy h2 q, RepF.sw hy h2 t⟩
end
/-- everything at a is this dict -/
def Bs.sw (B : Bs) (a : Addr) (y : HO) : Bs := { B with G := Tv.sw a y B.G, H := Tv.sw a y B.H, Gf := Tv.sw a y B.Gf }
theorem CRep.sw (hy : ∀ o, G a = some o → IsDk ds o) (h2 : IsDk ds y) {c : Addr} (hc : c ≠ a) : ∀ {x : Val}, CRep K mg κ G H c x → CRep K mg κ (Tv.sw a y G) (Tv.sw a y H) c x
  | .lst xs, q => by obtain ⟨vs, e, r⟩ := q; exact ⟨vs, by rw [sw_ne hc]; exact e, r.sw hy h2⟩
  | .obj C fs, q => by obtain ⟨Ca, dx, vs, e0, e, r⟩ := q; exact ⟨Ca, dx, vs, e0, by rw [sw_ne hc]; exact e, r.sw hy h2⟩
  | .dic xs, q => by obtain ⟨vs, e, r⟩ := q; exact ⟨vs, by rw [sw_ne hc]; exact e, r.sw hy h2⟩
  | .non, q => q.elim
  | .bl _, q => q.elim
  | .int _, q => q.elim
  | .str _, q => q.elim
  | .tup _, q => q.elim
  | .cell _, q => q.elim
  | .scr _, q => q.elim
theorem Wd.sw (w : Wd K mg κ G H S) {o : HO} (hg : G a = some o) (ho : IsDk ds o) (h2 : IsDk ds y) : Wd K mg κ (Tv.sw a y G) (Tv.sw a y H) S := by
  have ka : a ∉ κ := fun m => by rw [w.ap a m] at hg; cases hg
  have hy : ∀ o', G a = some o' → IsDk ds o' := fun o' e => by rw [hg] at e; cases e; exact ho
  exact ⟨sw_le w.le, w.nd, fun c m => sw_none.mpr (w.ap c m), w.len, fun n c v h1 h3 => (w.cel n c v h1 h3).sw hy h2 fun e => ka (e ▸ List.mem_of_getElem? h1)⟩
theorem ExtS.sw (x : ExtS K mg b B0 κ G H S) {o : HO} (hg : G a = some o) (ho : IsDk ds o) (h2 : IsDk ds y) : ExtS K mg b (B0.sw a y) κ (Tv.sw a y G) (Tv.sw a y H) S := by
  obtain ⟨⟨e, p⟩, pf, lf⟩ := x
  have ka : a ∉ κ := fun m => by rw [e.w.ap a m] at hg; cases hg
  refine ⟨⟨⟨e.pre, sw_le e.le, fun c u h n => ?_, fun c h g => sw_none.mpr (e.newG c (fun z => h (sw_none.mpr z)) (sw_none.mp g)), fun c m n => sw_none.mpr (e.newC c m n), e.w.sw hg ho h2⟩, fun z => ?_⟩, pf, sw_le lf⟩
  · show Tv.sw a y H c = some u
    have h : Tv.sw a y B0.H c = some u := h
    by_cases hc : c = a
    · subst hc
      cases q : B0.H c with
      | none => rw [sw_none.mpr q] at h; cases h
      | some o' =>
        rw [sw_same q] at h; cases h
        exact sw_same (e.keep c o' q n)
    · rw [sw_ne hc] at h ⊢; exact e.keep c u h n
  · obtain ⟨p1, p2, p3⟩ := p z
    exact ⟨p1, p2, sw_le p3⟩
theorem SlotOk.sw (hy : ∀ o, G a = some o → IsDk ds o) (h2 : IsDk ds y) : ∀ {s : Slot} {ov : Option V} {L : List Addr}, SlotOk K mg κ G H s ov L → a ∉ L → SlotOk K mg κ (Tv.sw a y G) (Tv.sw a y H) s ov L
  | .un, _, _, h, _ => h
  | .fz x, _, _, ⟨e, v, h, r⟩, _ => ⟨e, v, h, r.sw hy h2⟩
  | .o1 xs, _, _, h, n => by
    obtain ⟨c, vs, e, e1, e2, e3⟩ := h
    subst e
    exact ⟨c, vs, rfl, e1, by rw [sw_ne (show c ≠ a from fun z => n (by simp [z]))]; exact e2, e3.sw hy h2⟩
  | .o2 xss, _, _, h, n => by
    obtain ⟨c, as, e, e1, e2, e3⟩ := h
    subst e
    refine ⟨c, as, rfl, e1, by rw [sw_ne (show c ≠ a from fun z => n (by simp [z]))]; exact e2, ?_⟩
    have na : a ∉ as := fun z => n (by simp [z])
    clear e2 n e1
    induction xss generalizing as with
    | nil => exact e3
    | cons xs xss ih =>
      obtain ⟨d, r, vs, z, z1, z2, z3⟩ := e3
      subst z
      exact ⟨d, r, vs, rfl, by rw [sw_ne (show d ≠ a from fun z => na (by simp [z]))]; exact z1, z2.sw hy h2, ih r z3 fun z => na (by simp [z])⟩
  | .od xs, _, _, h, n => by
    obtain ⟨c, vs, e, e1, e2, e3⟩ := h
    subst e
    exact ⟨c, vs, rfl, e1, by rw [sw_ne (show c ≠ a from fun z => n (by simp [z]))]; exact e2, e3.sw hy h2⟩
  | .oi c C xs, _, _, h, n => by
    obtain ⟨Ca, dx, vs, e, e1, e4, e2, e3⟩ := h
    subst e
    exact ⟨Ca, dx, vs, rfl, e1, e4, by rw [sw_ne (show c ≠ a from fun z => n (by simp [z]))]; exact e2, e3.sw hy h2⟩
theorem SlotsOk.sw (hy : ∀ o, G a = some o → IsDk ds o) (h2 : IsDk ds y) : ∀ {E : Env} {σ : L2.St} {L : List Addr}, SlotsOk K mg κ G H E σ L → a ∉ L → SlotsOk K mg κ (Tv.sw a y G) (Tv.sw a y H) E σ L
  | [], _, _, h, _ => h
  | s :: E, _, _, h, n => by
    obtain ⟨ov, r, L1, L2, e1, e2, h1, h3⟩ := h
    subst e1 e2
    exact ⟨ov, r, L1, L2, rfl, rfl, h1.sw hy h2 fun z => n (by simp [z]), SlotsOk.sw hy h2 h3 fun z => n (by simp [z])⟩
theorem Sat.sw (h : Sat K mg b B0 E S κ G σ H) {o : HO} (hg : G a = some o) (ho : IsDk ds o) (h2 : IsDk ds y) : Sat K mg b (B0.sw a y) E S κ (Tv.sw a y G) σ (Tv.sw a y H) := by
  obtain ⟨x, L, so, nd, q⟩ := h
  have hy : ∀ o', G a = some o' → IsDk ds o' := fun o' e => by rw [hg] at e; cases e; exact ho
  refine ⟨x.sw hg ho h2, L, so.sw hy h2 fun m => ?_, nd, fun c m => ?_⟩
  · have := (q a m).2.1
    rw [hg] at this; cases this
  · obtain ⟨q1, q2, q3, q4⟩ := q c m
    exact ⟨sw_none.mpr q1, sw_none.mpr q2, q3, fun z => q4 (sw_none.mp z)⟩
end
end
end Tv

/-! loops over dicts; lookups -/
namespace Tv
open PySem PySem.Spec PyProof.Rows L2

def itemsV (kvs : List (Key × Val)) : List Val := kvs.map fun kv => .tup [kyV kv.1, kv.2]
def keysV (kvs : List (Key × Val)) : List Val := kvs.map fun kv => kyV kv.1
def valuesV (kvs : List (Key × Val)) : List Val := kvs.map fun kv => kv.2
section
variable {K : PySem.W.Frag} {mg : Str → Option Value} {κ : List Addr} {G : Hp} {a : Addr} {o : Obj} {vs : List (Key × V)} {kvs : List (Key × Val)}
theorem itR_items (h : G a = some (.frz o (.dK vs))) (t : RepD K mg κ G kvs vs) : ItR K mg κ G (itemsV kvs) (Iti a o vs) where
  go := fun i H l hi => ⟨l _ _ h, by unfold itemsV at hi; rw [List.length_map, ← t.length] at hi; exact hi⟩
  stop := fun H l => ⟨l _ _ h, by unfold itemsV; rw [List.length_map, t.length]; exact Nat.le_refl _⟩
  yld := fun i H x H' l hy it hi => by
    obtain ⟨T, k, v, e1, e2, e3, e4⟩ := hy
    obtain ⟨y, h1, r⟩ := t.get e1
    unfold itemsV at hi
    rw [List.getElem?_map, h1] at hi
    cases hi
    exact .inr ⟨T, _, _, e3, e4, e2, rfl, .cons (kyV_rep k) (.cons r .nil)⟩
theorem itR_keys (h : G a = some (.frz o (.dK vs))) (t : RepD K mg κ G kvs vs) : ItR K mg κ G (keysV kvs) (Itk a o vs) where
  go := fun i H l hi => ⟨l _ _ h, by unfold keysV at hi; rw [List.length_map, ← t.length] at hi; exact hi⟩
  stop := fun H l => ⟨l _ _ h, by unfold keysV; rw [List.length_map, t.length]; exact Nat.le_refl _⟩
  yld := fun i H x H' l hy it hi => by
    obtain ⟨e, k, v, e1, e2⟩ := hy
    obtain ⟨y, h1, r⟩ := t.get e1
    unfold keysV at hi
    rw [List.getElem?_map, h1] at hi
    cases hi
    exact .inl ⟨e, by rw [e2]; exact kyV_rep k⟩
theorem itR_values (h : G a = some (.frz o (.dK vs))) (t : RepD K mg κ G kvs vs) : ItR K mg κ G (valuesV kvs) (Itd a o vs) where
  go := fun i H l hi => ⟨l _ _ h, by unfold valuesV at hi; rw [List.length_map, ← t.length] at hi; exact hi⟩
  stop := fun H l => ⟨l _ _ h, by unfold valuesV; rw [List.length_map, t.length]; exact Nat.le_refl _⟩
  yld := fun i H x H' l hy it hi => by
    obtain ⟨e, k, e1⟩ := hy
    obtain ⟨y, h1, r⟩ := t.get e1
    unfold valuesV at hi
    rw [List.getElem?_map, h1] at hi
    cases hi
    exact .inl ⟨e, r⟩
end
section
variable {X : Cx} {N : List Str} {sc : Scope} {k : Nat} {E : Env} {m : Type → Type} [Mon m] {ρ : Type} {enc : ρ → Out}
theorem noExn_post {K : PySem.W.Frag} {mg : Str → Option Value} {p : Bool} {B0 : Bs} {r : M ρ} {S : Cells} {D : Ends} {W : WX} (h : PostS K mg p B0 (noExn r S) enc D W) : ∃ y S', r S = (.ok y, S') ∧ PostO K mg p B0 S' D (enc y) := by
  unfold noExn at h
  cases e : r S with
  | mk q S' =>
    rw [e] at h
    cases q with
    | ok y => exact ⟨y, S', rfl, h⟩
    | exn c fs => exact h.elim
    | stuck => exact h.elim
/-- the ends of a walk over a locked dict -/
def lockD (a : Addr) (y z : HO) (D : Ends) : Ends := ⟨fun σ' H' => H' a = some y ∧ D.nx σ' (L2.upd H' a z), fun v H' => H' a = some y ∧ D.rt v (L2.upd H' a z), fun σ' H' => H' a = some y ∧ D.bk σ' (L2.upd H' a z), fun σ' H' => H' a = some y ∧ D.ct σ' (L2.upd H' a z)⟩
theorem unlock_sat {K : PySem.W.Frag} {mg : Str → Option Value} {b : Bool} {B0 : Bs} {κ κ' : List Addr} {G G' H H' : Hp} {S S' : Cells} {E' : Env} {a : Addr} {vs : List (Key × V)} {ob : Obj} (x : ExtS K mg b B0 κ G H S) (hg : G a = some (.dK vs)) :
    (∀ (σ' : L2.St), Sat K mg b ((B0.sw a (.frz ob (.dK vs))).fl κ (Tv.sw a (.frz ob (.dK vs)) G)) E' S' κ' G' σ' H' → H' a = some (.frz ob (.dK vs)) ∧ Sat K mg b B0 E' S' κ' (Tv.sw a (.dK vs) G') σ' (L2.upd H' a (.dK vs))) ∧
    (ExtS K mg b ((B0.sw a (.frz ob (.dK vs))).fl κ (Tv.sw a (.frz ob (.dK vs)) G)) κ' G' H' S' → H' a = some (.frz ob (.dK vs)) ∧ G' a = some (.frz ob (.dK vs)) ∧ ExtS K mg b B0 κ' (Tv.sw a (.dK vs) G') (L2.upd H' a (.dK vs)) S') := by
  have hH : H a = some (.dK vs) := x.x.e.w.le _ _ hg
  have ka : a ∉ κ := fun m => by rw [x.x.e.w.ap a m] at hg; cases hg
  have k0 : a ∉ B0.κ := fun m => ka (x.x.e.pre.mem m)
  have back : (B0.sw a (.frz ob (.dK vs))).sw a (.dK vs) = B0 := by
    unfold Bs.sw
    have e1 : Tv.sw a (.dK vs) (Tv.sw a (.frz ob (.dK vs)) B0.G) = B0.G := by
      rw [sw_sw]
      exact sw_id fun o e => by have := x.x.e.le a o e; rw [hg] at this; cases this; rfl
    have e2 : Tv.sw a (.dK vs) (Tv.sw a (.frz ob (.dK vs)) B0.H) = B0.H := by
      rw [sw_sw]
      exact sw_id fun o e => by have := x.x.e.keep a o e k0; rw [hH] at this; cases this; rfl
    have e3 : Tv.sw a (.dK vs) (Tv.sw a (.frz ob (.dK vs)) B0.Gf) = B0.Gf := by
      rw [sw_sw]
      exact sw_id fun o e => by have := x.lf a o e; rw [hg] at this; cases this; rfl
    show Bs.mk _ _ _ _ _ _ = B0
    rw [show (Tv.sw a (.dK vs) (Tv.sw a (.frz ob (.dK vs)) B0.G)) = B0.G from e1, show (Tv.sw a (.dK vs) (Tv.sw a (.frz ob (.dK vs)) B0.H)) = B0.H from e2, show (Tv.sw a (.dK vs) (Tv.sw a (.frz ob (.dK vs)) B0.Gf)) = B0.Gf from e3]
  have gy : Tv.sw a (.frz ob (.dK vs)) G a = some (.frz ob (.dK vs)) := sw_same hg
  have core : ExtS K mg b ((B0.sw a (.frz ob (.dK vs))).fl κ (Tv.sw a (.frz ob (.dK vs)) G)) κ' G' H' S' → G' a = some (.frz ob (.dK vs)) ∧ H' a = some (.frz ob (.dK vs)) := fun y => by
    have g1 : G' a = some (.frz ob (.dK vs)) := y.lf a _ gy
    exact ⟨g1, y.x.e.w.le _ _ g1⟩
  refine ⟨fun σ' s => ?_, fun y => ?_⟩
  · obtain ⟨g1, h1⟩ := core s.1
    have s2 : Sat K mg b (B0.sw a (.frz ob (.dK vs))) E' S' κ' G' σ' H' := s.unfl (B0 := B0.sw a (.frz ob (.dK vs))) x.pf (sw_le x.lf)
    have s3 := s2.sw (y := .dK vs) (ds := vs) g1 (.inr ⟨ob, rfl⟩) (.inl rfl)
    rw [back, sw_upd h1] at s3
    exact ⟨h1, s3⟩
  · obtain ⟨g1, h1⟩ := core y
    have s2 : ExtS K mg b (B0.sw a (.frz ob (.dK vs))) κ' G' H' S' := y.unfl (B0 := B0.sw a (.frz ob (.dK vs))) x.pf (sw_le x.lf)
    have s3 := s2.sw (y := .dK vs) (ds := vs) g1 (.inr ⟨ob, rfl⟩) (.inl rfl)
    rw [back, sw_upd h1] at s3
    exact ⟨h1, g1, s3⟩
theorem lock_post {K : PySem.W.Frag} {mg : Str → Option Value} {b : Bool} {B0 : Bs} {κ : List Addr} {G H : Hp} {S S' : Cells} {a : Addr} {vs : List (Key × V)} {ob : Obj} {D : Ends} {o : Out} (x : ExtS K mg b B0 κ G H S) (hg : G a = some (.dK vs)) (hr : ∀ x, o ≠ .rr x) (h : PostO K mg b B0 S' D o) :
    PostO K mg b ((B0.sw a (.frz ob (.dK vs))).fl κ (Tv.sw a (.frz ob (.dK vs)) G)) S' (lockD a (.frz ob (.dK vs)) (.dK vs) D) o := by
  cases o with
  | nx E' => exact fun κ' G' σ' H' s => by obtain ⟨h1, s1⟩ := (unlock_sat x hg).1 σ' s; exact ⟨h1, h κ' _ σ' _ s1⟩
  | bk E' => exact fun κ' G' σ' H' s => by obtain ⟨h1, s1⟩ := (unlock_sat x hg).1 σ' s; exact ⟨h1, h κ' _ σ' _ s1⟩
  | ct E' => exact fun κ' G' σ' H' s => by obtain ⟨h1, s1⟩ := (unlock_sat x hg).1 σ' s; exact ⟨h1, h κ' _ σ' _ s1⟩
  | rt z =>
    intro κ' G' H' v e r
    obtain ⟨h1, g1, s1⟩ := (unlock_sat (E' := []) x hg).2 e
    exact ⟨h1, h κ' _ _ v s1 (r.sw (ds := vs) (fun o e => (by rw [g1] at e; cases e; exact .inr ⟨ob, rfl⟩)) (.inl rfl))⟩
  | rr z => exact absurd rfl (hr z)
/-- a loop over a view of a frozen dict -/
theorem st_forD (c : Ctx X N sc k) {τ : Type} {tg iter : Expr} {body : List Stmt} {pos : Pos} {step : ρ → Val → m (Fl ρ τ)} (enc0 : ρ → Env) (tv : τ → Val) (is : List Nat) (st0 : ρ) (hE : unset E is = enc0 st0) {i : Nat} {kvs : List (Key × Val)} (he : E[i]? = some (.fz (.dic kvs)))
    {items : List (Key × Val) → List Val} {J : Addr → Obj → List (Key × V) → It} {wi : TI} (hpi : PI X tg iter wi)
    (hwi : ∀ σ H R a o vs, σ[i]? = some (some (.ref a)) → H a = some (.frz o (.dK vs)) → R (J a o vs) H → wi σ H R)
    (hJ : ∀ κ G a o vs kvs, G a = some (.frz o (.dK vs)) → RepD X.K X.mg κ G kvs vs → ItR X.K X.mg κ G (items kvs) (J a o vs))
    (hb : ∀ st x, Tb X (enc0 st) tg x body (step st x) (encL enc0 tv)) (hfs : ∀ env x, foldedSetIterable iter env x = pure x := by intros; rfl) :
    St1 X E (.For tg iter body [] pos) (Mon.nx (forM' step (items kvs) st0)) (encL enc0 tv) := by
  intro B0 S κ G σ H sat W tk D q
  rw [Mon.run_nx] at q
  obtain ⟨y, S2, ey, py⟩ := noExn_post q
  obtain ⟨_, L, so, _, _⟩ := id sat
  obtain ⟨ov, L1, hσ, ⟨_, u, hu, ru⟩, _⟩ := so.get he
  subst hu
  obtain ⟨a, vs, ev, hrd, rl⟩ := rep_dic ru
  subst ev
  have eqn : Mon.run (m := m) ((Pure.pure (items kvs) : m (List Val)) >>= fun xs => forM' step xs st0) S = (.ok y, S2) := by
    rw [Mon.run_bind, Mon.run_pure]
    exact ey
  rcases hrd with hg | ⟨ob, hg⟩
  · have hH : H a = some (.dK vs) := sat.w.le _ _ hg
    refine ws_of (ps_lock (ps_self (e := .For tg iter body [] pos))) ⟨a, .dK vs, hH, trivial, fun ob => ?_⟩
    have s1 := sat.sw (y := .frz ob (.dK vs)) (ds := vs) hg (.inl rfl) (.inr ⟨ob, rfl⟩)
    rw [sw_upd hH] at s1
    have s2 := s1.fl (κ1 := κ) (G1 := Tv.sw a (.frz ob (.dK vs)) G) (Pre.refl _) (Le.refl _)
    have gy : Tv.sw a (.frz ob (.dK vs)) G a = some (.frz ob (.dK vs)) := sw_same hg
    refine for_core (ri := Pure.pure (items kvs)) c enc0 tv is st0 hE hb hfs s2 tk (fun R p => ?_) ?_
    · refine wi_of hpi (hwi σ _ R a ob vs hσ upd_same ?_)
      rw [Mon.run_pure] at p
      exact p _ _ _ _ (ExtB.refl s2.w) (hJ κ _ a ob vs kvs gy (rl.sw (ds := vs) (fun o e => by rw [hg] at e; cases e; exact .inl rfl) (.inr ⟨ob, rfl⟩)))
    · rw [eqn]
      exact lock_post sat.1 hg (fun x z => by cases y <;> cases z) py
  · refine for_core (ri := Pure.pure (items kvs)) c enc0 tv is st0 hE hb hfs sat tk (fun R p => ?_) ?_
    · refine wi_of hpi (hwi σ _ R a ob vs hσ (sat.w.le _ _ hg) ?_)
      rw [Mon.run_pure] at p
      exact p _ _ _ _ (ExtB.refl sat.w) (hJ κ _ a ob vs kvs hg rl)
    · rw [eqn]
      exact py
/-- for x, y in d.items() -/
theorem st_forItems (c : Ctx X N sc k) {τ : Type} {elts : List Expr} {kk} {tpos p ap cp pos : Pos} {body : List Stmt} {step : ρ → Val → m (Fl ρ τ)} (enc0 : ρ → Env) (tv : τ → Val) (is : List Nat) (st0 : ρ) (hE : unset E is = enc0 st0) (i : Nat) {x : Str} {kvs : List (Key × Val)} (hn : Nm N sc i x) (he : E[i]? = some (.fz (.dic kvs)))
    (hb : ∀ st x, Tb X (enc0 st) (.Tuple elts kk tpos) x body (step st x) (encL enc0 tv)) (hl : (ap.endLine == cp.line) = true := by rfl) :
    St1 X E (.For (.Tuple elts kk tpos) (.Call (.Attribute (.Name x p) "items" ap) [] [] cp) body [] pos) (Mon.nx (forM' step (itemsV kvs) st0)) (encL enc0 tv) :=
  st_forD (items := itemsV) c enc0 tv is st0 hE he (pi_items (c.pv hn) rfl hl) (fun σ H R a o vs h1 h2 h3 => ⟨_, h1, a, o, vs, rfl, h2, h3⟩) (fun κ G a o vs kvs h t => itR_items h t) hb (by intros; rfl)
theorem st_forKeys (c : Ctx X N sc k) {τ : Type} {tg : Expr} {p pos : Pos} {body : List Stmt} {step : ρ → Val → m (Fl ρ τ)} (enc0 : ρ → Env) (tv : τ → Val) (is : List Nat) (st0 : ρ) (hE : unset E is = enc0 st0) (i : Nat) {x : Str} {kvs : List (Key × Val)} (hn : Nm N sc i x) (he : E[i]? = some (.fz (.dic kvs)))
    (hb : ∀ st x, Tb X (enc0 st) tg x body (step st x) (encL enc0 tv)) :
    St1 X E (.For tg (.Name x p) body [] pos) (Mon.nx (forM' step (keysV kvs) st0)) (encL enc0 tv) :=
  st_forD (items := keysV) c enc0 tv is st0 hE he (pi_keys (c.pv hn)) (fun σ H R a o vs h1 h2 h3 => ⟨_, h1, a, o, rfl, .inl ⟨vs, h2, h3⟩⟩) (fun κ G a o vs kvs h t => itR_keys h t) hb (by intros; rfl)
theorem st_forValues (c : Ctx X N sc k) {τ : Type} {tg : Expr} {p ap cp pos : Pos} {body : List Stmt} {step : ρ → Val → m (Fl ρ τ)} (enc0 : ρ → Env) (tv : τ → Val) (is : List Nat) (st0 : ρ) (hE : unset E is = enc0 st0) (i : Nat) {x : Str} {kvs : List (Key × Val)} (hn : Nm N sc i x) (he : E[i]? = some (.fz (.dic kvs)))
    (hb : ∀ st x, Tb X (enc0 st) tg x body (step st x) (encL enc0 tv)) (hl : (ap.endLine == cp.line) = true := by rfl) :
    St1 X E (.For tg (.Call (.Attribute (.Name x p) "values" ap) [] [] cp) body [] pos) (Mon.nx (forM' step (valuesV kvs) st0)) (encL enc0 tv) :=
  st_forD (items := valuesV) c enc0 tv is st0 hE he (pi_values (c.pv hn) rfl hl) (fun σ H R a o vs h1 h2 h3 => ⟨_, h1, a, o, vs, rfl, h2, h3⟩) (fun κ G a o vs kvs h t => itR_values h t) hb (by intros; rfl)
/-- an owned dict is changed no more -/
theorem sx_freezeD {Ks : List (List Stmt)} (i : Nat) {ss : List Stmt} {r : m ρ} {kvs : List (Key × Val)} (he : E[i]? = some (.od kvs)) (h : Sx X (E.set i (.fz (.dic kvs))) ss Ks r enc) : Sx X E ss Ks r enc := by
  intro B0 S κ G σ H sat W tk D q
  obtain ⟨G', s1⟩ := sat.freezeD he
  exact h B0 S κ G' σ H s1 W tk D q
/-! ### k in d, d.get(k), d[k] -/
def oInD (x y : Val) : Res Val := match y with
  | .dic kvs => match asKey x with
    | some k => .ok (.bl (valD kvs k).isSome)
    | none => .stuck
  | _ => oIn x y
def oNotInD (x y : Val) : Res Val := match y with
  | .dic kvs => match asKey x with
    | some k => .ok (.bl (!(valD kvs k).isSome))
    | none => .stuck
  | _ => oNotIn x y
theorem dget_of {K : PySem.W.Frag} {mg : Str → Option Value} {κ : List Addr} {G H : Hp} {a : Addr} {kvs : List (Key × Val)} {vs : List (Key × V)} {x : Val} {v : V} {k : Key} (l : Le G H) (hr : Rd G a (.dK vs)) (ha : asKey x = some k) (rx : Rep K mg κ G x v) : DGet H a v (valV vs k) := .inl ⟨vs, k, l.rd hr, asKey_rep ha rx, rfl⟩
theorem val_isSome {K : PySem.W.Frag} {mg : Str → Option Value} {κ : List Addr} {G : Hp} {kvs : List (Key × Val)} {vs : List (Key × V)} (t : RepD K mg κ G kvs vs) (k : Key) : (valV vs k).isSome = (valD kvs k).isSome := by
  rcases t.val (k := k) with ⟨x, v, e1, e2, _⟩ | ⟨e1, e2⟩
  · rw [e1, e2]; rfl
  · rw [e1, e2]; rfl
theorem o_inD (c : Ctx X N sc k) : Op2 X (compareOp .In) oInD := by
  intro κ G H S x y v u Q W w rx ry h
  unfold oInD at h
  split at h
  · split at h
    · rename_i kvs _ j hj
      obtain ⟨a, vs, ev, hr, t⟩ := rep_dic ry
      subst ev
      intro pins s σ v' u' I rv ru
      obtain rfl : u' = Value.ref a := ru
      exact d_in (by have := c.room.un; omega) I (dget_of (kvs := kvs) w.le hr hj rx) rv fun s' I' => ⟨.bl _, H, I', rfl, h.okR w (by rw [val_isSome t]; exact repB _)⟩
    · exact h.elim
  · exact o_in c κ G H S x y v u Q W w rx ry h
theorem o_notInD (c : Ctx X N sc k) : Op2 X (compareOp .NotIn) oNotInD := by
  intro κ G H S x y v u Q W w rx ry h
  unfold oNotInD at h
  split at h
  · split at h
    · rename_i kvs _ j hj
      obtain ⟨a, vs, ev, hr, t⟩ := rep_dic ry
      subst ev
      intro pins s σ v' u' I rv ru
      obtain rfl : u' = Value.ref a := ru
      exact d_notIn (by have := c.room.un; omega) I (dget_of (kvs := kvs) w.le hr hj rx) rv fun s' I' => ⟨.bl _, H, I', rfl, h.okR w (by rw [val_isSome t]; exact repB _)⟩
    · exact h.elim
  · exact o_notIn c κ G H S x y v u Q W w rx ry h
def asDic : Val → Res (List (Key × Val))
  | .dic kvs => .ok kvs
  | _ => .stuck
def getD (kvs : List (Key × Val)) (y : Val) : Res Val := match asKey y with
  | some k => .ok ((valD kvs k).getD .non)
  | none => .stuck
/-- d.get(k) -/
theorem ev_get (c : Ctx X N sc k) {o e : Expr} {ap cp : Pos} {ro re : m Val} (ho : Ev X E o ro) (he : Ev X E e re) (hbase : ∀ env, attributeBase o "get" env (eval o env) = eval o env) (hs : notStar e = true := by rfl) (hl : (ap.endLine == cp.line) = true := by rfl) :
    Ev X E (.Call (.Attribute o "get" ap) [e] [] cp) (ro >>= fun x => Mon.of (asDic x) >>= fun kvs => re >>= fun y => Mon.of (getD kvs y)) := by
  intro B0 S κ G σ H sat W tk Q q
  have tr : starEach [e] X.env = [(false, eval e X.env)] := by rw [star_of hs]; rfl
  refine we_of (pe_dget1 (by have := c.room.un; omega) pe_self pe_self ⟨hbase _, by rw [tr]; rfl, hl, by rw [tr]; rfl⟩) ?_
  refine ho B0 S κ G σ H sat W tk _ (bindW q fun x v κ1 G1 H1 S1 e1 r1 h1 => ?_)
  have sat1 := sat.ext e1.weak
  rw [Mon.run_bind, Mon.run_of] at h1
  cases x with
  | dic kvs =>
    have h1 : Post X.K X.mg (Mon.pu m) (Rep X.K X.mg) κ1 G1 H1 S1 (Mon.run (re >>= fun y => Mon.of (getD kvs y)) S1) Q (fun c d H' => W c d σ H') := h1
    obtain ⟨a, vs, ev, hr, t⟩ := rep_dic r1
    subst ev
    refine ⟨a, rfl, .inl ⟨vs, e1.e.w.le.rd hr⟩, ?_⟩
    refine he B0 S1 κ1 G1 σ H1 sat1 W tk _ (bindW h1 fun y u κ2 G2 H2 S2 e2 r2 h2 => ?_)
    have h3 := h2.ofOk
    unfold getD at h3
    split at h3
    · rename_i j hj
      have hr2 := e2.e.le.rd hr
      refine ⟨_, dget_of (kvs := kvs) e2.e.w.le hr2 hj r2, h3.okR e2.e.w ?_⟩
      rcases t.val (k := j) with ⟨z, w, q1, q2, q3⟩ | ⟨q1, q2⟩
      · rw [q1, q2]; exact q3.mono e2.e.pre e2.e.le
      · rw [q1, q2]; exact repN
    · exact h3.elim
  | _ => exact h1.elim
end
end Tv

/-! sorted(set(xs)); keywords; try; moves -/
namespace Tv
open PySem PySem.Spec PyProof.Rows L2

def dedupI : List Int → List Int
  | [] => []
  | i :: is => if i ∈ dedupI is then dedupI is else i :: dedupI is
theorem dedupI_mem (x : Int) : ∀ is, x ∈ dedupI is ↔ x ∈ is
  | [] => Iff.rfl
  | i :: is => by
    unfold dedupI
    split
    · rw [dedupI_mem x is, List.mem_cons]
      rename_i h
      rw [dedupI_mem i is] at h
      exact ⟨.inr, fun z => z.elim (fun e => e ▸ h) id⟩
    · rw [List.mem_cons, List.mem_cons, dedupI_mem x is]
theorem dedupI_nodup : ∀ is, (dedupI is).Nodup
  | [] => .nil
  | i :: is => by
    unfold dedupI
    split
    · exact dedupI_nodup is
    · exact List.nodup_cons.mpr ⟨by assumption, dedupI_nodup is⟩
theorem perm_nodup : ∀ {as bs : List Int}, as.Nodup → bs.Nodup → (∀ x, x ∈ as ↔ x ∈ bs) → as.Perm bs
  | [], bs, _, _, h => by
    cases bs with
    | nil => exact .refl _
    | cons b bs => exact absurd ((h b).mpr List.mem_cons_self) (by simp)
  | a :: as, bs, h1, h2, h => by
    obtain ⟨na, h1⟩ := List.nodup_cons.mp h1
    have ma : a ∈ bs := (h a).mp List.mem_cons_self
    have p := List.perm_cons_erase ma
    refine (List.Perm.cons a (perm_nodup h1 (h2.erase a) fun x => ?_)).trans p.symm
    constructor
    · intro hx
      have xa : x ≠ a := fun e => na (e ▸ hx)
      exact (List.mem_erase_of_ne xa).mpr ((h x).mp (List.mem_cons_of_mem _ hx))
    · intro hx
      have xa : x ≠ a := fun e => by
        subst e
        exact (List.Nodup.not_mem_erase h2) hx
      rcases List.mem_cons.mp ((h x).mpr (List.mem_of_mem_erase hx)) with e | e
      · exact absurd e xa
      · exact e
def fSortedSet : Val → Res Val
  | .lst xs => match intsV xs with
    | some ns => if ns.length + 1 < scanBound ∧ (dedupI ns).length < 64 then .ok (.lst ((sortI (dedupI ns)).map .int)) else .stuck
    | none => .stuck
  | _ => .stuck
section
variable {X : Cx} {N : List Str} {sc : Scope} {k : Nat} {E : Env} {m : Type → Type} [Mon m] {ρ : Type} {enc : ρ → Out} {rest : List Stmt} {Ks : List (List Stmt)}
theorem ev_sortedSet (c : Ctx X N sc k) {a : Expr} {p p2 q pos : Pos} {r : m Val} (hg : glB sc "sorted" = true) (hm : X.mg "sorted" = none) (hg2 : glB sc "set" = true) (hm2 : X.mg "set" = none) (h : Ev X E a r) (hs : notStar a = true := by rfl) :
    Ev X E (.Call (.Name "sorted" p) [.Call (.Name "set" p2) [a] [] q] [] pos) (r >>= fun x => Mon.of (fSortedSet x)) := by
  intro B0 S κ G σ H sat W tk Q hq
  refine ⟨fun pins s I => ?_⟩
  have na : starEach [a] X.env = (false, eval a X.env) :: starEach [] X.env := star_of hs [] X.env
  refine Call_ (ld_blt I (c.gl hg).1 hm PyProof.Rows.boot_sorted ?_)
  refine PyProof.Rows.callWith_builtin1 (PyProof.Rows.args_cons ?_ rfl) rfl rfl
  refine Call_ (ld_blt I (c.gl hg2).1 hm2 PyProof.Rows.boot_set ?_)
  refine PyProof.Rows.callWith_type1 (PyProof.Rows.args_cons (thn ((h B0 S κ G σ H sat W tk _ (bindP (R := Rep X.K X.mg) hq)).run pins s I) fun u s1 ⟨v, H1, I1, r1, x, κ1, G1, S1, e1, rx, h1⟩ => PyProof.Rows.args_nil ?_) na) na rfl
  have h2 := h1.ofOk
  unfold fSortedSet at h2
  split at h2
  · split at h2
    · split at h2
      · rename_i ns hns hz
        obtain ⟨ad, vs, ev, hq, t⟩ := rep_lst rx
        subst ev
        cases r1
        have evs := ints_rep hns t
        subst evs
        obtain ⟨its, rv, pl, hsz⟩ := I1.list (.inl (.inl (e1.e.w.le _ _ hq)))
        refine call_set_ints ns (I1.ok.hd c.calm) pl.isList (by simpa using rv.ints) hz.1 fun s2 fl => ?_
        obtain ⟨h', tk', n, e2, R, hk⟩ := fl
        subst e2
        refine PyProof.Rows.args_nil ?_
        have cardn : n = (dedupI ns).length := by
          obtain ⟨o, es, ep, t', _, _, _, _, nd, hm', _, _, hn, _⟩ := R
          have pm : (es.toList.map keyOf).Perm (dedupI ns) := perm_nodup nd (dedupI_nodup ns) fun x => by
            rw [← hm' x, dedupI_mem]
            exact decide_eq_true_iff
          have := pm.length_eq
          rw [List.length_map, Array.length_toList] at this
          rw [← hn, this]
        have I2 : L2.Inv X pins σ H1 { s1 with heap := h', toks := tk' } := I1.kept (t' := tk') hk
        obtain ⟨s2, es2⟩ : ∃ s2 : Shared, s2 = { s1 with heap := h', toks := tk' } := ⟨_, rfl⟩
        have eh : s2.heap = h' := by rw [es2]
        rw [← es2] at I2 ⊢
        rw [← eh] at R
        refine sorted_set R (by simpa using I1.ok.hd c.calm) (by rw [cardn]; exact hz.2) fun s3 p out cc ms hk3 hg3 ho3 hp3 hs3 hi3 hw3 hm3 hl3 => ?_
        have pm : ms.Perm (dedupI ns) := perm_nodup (hw3.imp fun h e => by omega) (dedupI_nodup ns) fun x => by
          rw [hm3 x, dedupI_mem]
          exact decide_eq_true_iff
        have ems : ms = sortI (dedupI ns) := sorted_eq pm (hw3.imp fun h => Int.le_of_lt h)
        have hlen : (ms.map V.int).length ≤ sizeLine := by rw [List.length_map, hl3, cardn, sizeLine_eq]; omega
        have hn : H1 p = none := I2.hok.fresh hp3
        have J : L2.Inv X pins σ (L2.upd H1 p (.lst (ms.map V.int))) { s2 with heap := s3.heap, gens := s3.gens, drawn := s3.drawn, toks := s3.toks } :=
          I2.call (ch := []) (Un.laid hk3 hp3 hn) (I2.hok.laid hk3 hp3 ⟨hlen, out.toList, cc, vals_of_ints hi3, hs3⟩) (by rw [hg3]; exact I2.bare) (fun _ z => nomatch z)
        have e : s3 = { s2 with heap := s3.heap, gens := s3.gens, drawn := s3.drawn, toks := s3.toks } := by
          cases s3
          cases ho3
          rfl
        rw [e]
        refine ⟨.ref p, _, J, rfl, ?_⟩
        rw [ems]
        exact new_lst e1.e.w hn (rep_ints _) h2
      · exact h2.elim
    · exact h2.elim
  · exact h2.elim
/-! ### keywords -/
def pickL {α : Type} (d : α) (is : List Nat) (xs : List α) : List α := is.map fun i => xs.getD i d
theorem RepL.pick {K : PySem.W.Frag} {mg : Str → Option Value} {κ : List Addr} {G : Hp} {xs : List Val} {vs : List V} (h : RepL K mg κ G xs vs) : ∀ is : List Nat, RepL K mg κ G (pickL .non is xs) (pickL .non is vs)
  | [] => .nil
  | i :: is => by
    refine .cons ?_ (RepL.pick h is)
    show Rep K mg κ G (xs.getD i Val.non) (vs.getD i V.non)
    rw [List.getD_eq_getElem?_getD, List.getD_eq_getElem?_getD]
    cases e : xs[i]? with
    | none =>
      have : vs[i]? = none := by
        rw [List.getElem?_eq_none_iff] at e ⊢
        rw [h.length]; exact e
      rw [this]; exact repN
    | some x =>
      obtain ⟨v, hv, r⟩ := h.get e
      rw [hv]; exact r
theorem Vals.length' {vs : List V} {us : List Value} (r : Vals vs us) : vs.length = us.length := r.length
theorem Vals.pick {vs : List V} {us : List Value} (h : Vals vs us) : ∀ is : List Nat, Vals (pickL .non is vs) (pickL .none is us)
  | [] => .nil
  | i :: is => by
    refine .cons ?_ (Vals.pick h is)
    show L2.RelV (vs.getD i V.non) (us.getD i Value.none)
    rw [List.getD_eq_getElem?_getD, List.getD_eq_getElem?_getD]
    cases e : vs[i]? with
    | none =>
      have : us[i]? = none := by
        rw [List.getElem?_eq_none_iff] at e ⊢
        rw [← h.length]; exact e
      rw [this]; exact rfl
    | some x =>
      obtain ⟨v, hv, r⟩ := h.get e
      rw [hv]; exact r
structure WK (X : Cx) (kws : List Keyword) (σ : L2.St) (H : Hp) (Q : List V → Hp → Prop) : Prop where
  run : ∀ (pos : Pos) (pins : List (Addr × Obj)) (s : Shared), L2.Inv X pins σ H s → wpAny (model X.prog X.w) X.A (evalAll ((backToKw pos (keywordEach kws X.env)).map (·.2))) (AP X pins σ Q) X.xe s
theorem pk_self {kws : List Keyword} : PK X kws (WK X kws) := ⟨fun pos pins s _ _ _ I h => h.run pos pins s I⟩
theorem wk_of {kws : List Keyword} {t : TA} (h : PK X kws t) {σ : L2.St} {H : Hp} {Q : List V → Hp → Prop} (q : t σ H Q) : WK X kws σ H Q := ⟨fun pos pins s I => h.run pos pins s σ H Q I q⟩
/-- keywords' values -/
def Ek (X : Cx) (E : Env) (kws : List Keyword) (r : m (List Val)) : Prop :=
  ∀ B0 S κ G σ H, Sat X.K X.mg false B0 E S κ G σ H → ∀ W : WX, Takes X W → ∀ Q : List V → Hp → Prop, Post X.K X.mg (Mon.pu m) (RepL X.K X.mg) κ G H S (Mon.run r S) Q (fun c d H' => W c d σ H') → WK X kws σ H Q
theorem ek_nil : Ek X E [] (Pure.pure [] : m (List Val)) := by
  intro B0 S κ G σ H sat W tk Q q
  exact wk_of pk_nil (Post.pure (m := m) q sat.w .nil)
theorem ek_cons {nm : Option Str} {kpos : Pos} {e : Expr} {kws : List Keyword} {r : m Val} {rs : m (List Val)} (h : Ev X E e r) (h2 : Ek X E kws rs) : Ek X E (⟨nm, e, kpos⟩ :: kws) (r >>= fun x => rs >>= fun xs => Pure.pure (x :: xs)) := by
  intro B0 S κ G σ H sat W tk Q q
  refine wk_of (pk_cons pe_self pk_self) ?_
  refine h B0 S κ G σ H sat W tk _ (bindW q fun x v κ1 G1 H1 S1 e1 r1 h1 => ?_)
  refine h2 B0 S1 κ1 G1 σ H1 (sat.ext e1.weak) W tk _ (bindW h1 fun xs vs κ2 G2 H2 S2 e2 r2 h3 => ?_)
  exact Post.pure (m := m) h3 e2.e.w (.cons (r1.mono e2.e.pre e2.e.le) r2)
/-- a call binds: p plain values, the keywords ks, in the parameters' order by is -/
def KwB (K : PySem.W.Frag) (fd : FuncData) (ps ks : List Str) (p : Nat) (is : List Nat) : Prop :=
  ∀ (s : Shared) (us ws : List Value), K.In s.heap → us.length = p → ws.length = ks.length → BindsTo s fd ⟨us, ks.zip ws⟩ (ps.zip (pickL .none is (us ++ ws)))
variable {j : Nat} {f : Addr} {fd : FuncData} {ps ks : List Str} {g : List Val → m Val}
def chkN (p q : Nat) (xs zs : List Val) : Res Unit := if xs.length = p ∧ zs.length = q then .ok () else .stuck
theorem runGK {pins : List (Addr × Obj)} {σ : L2.St} {H : Hp} {s : Shared} {Q : VK} {us ws : List Value} {vs zs : List V} {κ : List Addr} {G : Hp} {S : Cells} {xs ys : List Val} {W : WX} {p : Nat} {is : List Nat} (c : Ctx X N sc k) (F : FnG X.prog X.w X.K X.mg X.base j f fd ps g) (hj : j ≤ k) (hb : KwB X.K fd ps ks p is) (tk : Takes X W)
    (I : L2.Inv X pins σ H s) (r : Vals vs us) (rz : Vals zs ws) (wd : Wd X.K X.mg κ G H S) (rl : RepL X.K X.mg κ G xs vs) (rl2 : RepL X.K X.mg κ G ys zs) (h1 : xs.length = p) (h2 : ys.length = ks.length) (h : Post X.K X.mg (Mon.pu m) (Rep X.K X.mg) κ G H S (Mon.run (g (pickL .non is (xs ++ ys))) S) Q (fun c d H' => W c d σ H')) :
    wpAny (model X.prog X.w) X.A (call (.ref f) us (ks.zip ws)) (EP X pins σ Q) X.xe s := by
  have rr := (rl.append rl2).pick is
  have rv := Vals.pick (Vals.append r rz) is
  have hl : (pickL V.non is (vs ++ zs)).length = ps.length := by
    rw [rr.length]
    by_cases e : (pickL Val.non is (xs ++ ys)).length = ps.length
    · exact e
    · rw [F.len _ e, Mon.run_of] at h
      exact h.elim
  have bt := hb s us ws I.kIn (by rw [← r.length, rl.length]; exact h1) (by rw [← rz.length, rl2.length]; exact h2)
  refine wpAny_call (codeAny_mono (F.run X.A X.stack s H ⟨us, ks.zip ws⟩ _ _ Q (fun c d H' => W c d σ H') κ G S _ (c.room.mono hj) c.gd I.env0 bt rv hl wd rr h) fun fl s' q => ?_)
  cases fl with
  | error e => exact tk e s' (XE.of_call I (fun _ _ _ z => z) q)
  | ok z =>
    cases z with
    | ret u => exact I.after q
    | next => exact q.elim
    | brk => exact q.elim
    | cont => exact q.elim
/-- f(k = e, ..) -/
theorem ev_callK0 (c : Ctx X N sc k) {x : Str} {p pos : Pos} {kws : List Keyword} {rk : m (List Val)} {is : List Nat} (F : FnG X.prog X.w X.K X.mg X.base j f fd ps g) (hj : j ≤ k) (hb : KwB X.K fd ps ks 0 is) (hg : glB sc x = true) (hm : X.mg x = some (.ref f)) (hk : PySem.W.keepIn X.K (.ref f) = true)
    (ha : Ek X E kws rk) (hall : ∀ env, (backToKw pos (keywordEach kws env)).all (·.1.isSome) = true) (hks : ∀ env, (backToKw pos (keywordEach kws env)).filterMap (·.1) = ks) (hpl : ∀ env, ((backTo pos (starEach [] env)).any (·.1) || (backToKw pos (keywordEach kws env)).any (·.1.isNone)) = false) :
    Ev X E (.Call (.Name x p) [] kws pos) (rk >>= fun zs => Mon.of (chkN 0 ks.length [] zs) >>= fun _ => g (pickL .non is zs)) := by
  intro B0 S κ G σ H sat W tk Q q
  obtain ⟨g1, g2, _⟩ := c.gl hg
  refine ⟨fun pins s I => ?_⟩
  refine wpAny_Call_Name_kw (ld_glob I g1 hm ?_ g2)
  refine PySem.W.callWith_KW0 (h₀ := X.base) I.ok.mod.kin hk (hall _) (thn ((ha B0 S κ G σ H sat W tk _ (bindP (R := RepL X.K X.mg) q)).run pos pins s I) fun ws s1 ⟨zs, H1, I1, r, ys, κ1, G1, S1, w1, r1, h1⟩ => ⟨I1.kIn, ?_⟩) (hpl _)
  rw [hks]
  rw [Mon.run_bind, Mon.run_of] at h1
  unfold chkN at h1
  split at h1
  · rename_i hh
    have h1 : Post X.K X.mg (Mon.pu m) (Rep X.K X.mg) κ1 G1 H1 S1 (Mon.run (g (pickL .non is ys)) S1) Q (fun c d H' => W c d σ H') := h1
    exact runGK (us := []) (vs := []) (xs := []) c F hj hb tk I1 .nil r w1.e.w .nil r1 rfl hh.2 h1
  · exact h1.elim
/-- f(e, .., k = e, ..) -/
theorem ev_callK (c : Ctx X N sc k) {x : Str} {p pos : Pos} {e : Expr} {es : List Expr} {kws : List Keyword} {rs rk : m (List Val)} {n : Nat} {is : List Nat} (F : FnG X.prog X.w X.K X.mg X.base j f fd ps g) (hj : j ≤ k) (hb : KwB X.K fd ps ks n is) (hg : glB sc x = true) (hm : X.mg x = some (.ref f)) (hk : PySem.W.keepIn X.K (.ref f) = true)
    (ha : Ea X E (e :: es) rs) (hkw : Ek X E kws rk) (hall : ∀ env, (backToKw pos (keywordEach kws env)).all (·.1.isSome) = true) (hks : ∀ env, (backToKw pos (keywordEach kws env)).filterMap (·.1) = ks) (hkn : ∀ env, (backToKw pos (keywordEach kws env)).any (·.1.isNone) = false) (hs : noStars (e :: es) = true := by rfl) :
    Ev X E (.Call (.Name x p) (e :: es) kws pos) (rs >>= fun xs => rk >>= fun zs => Mon.of (chkN n ks.length xs zs) >>= fun _ => g (pickL .non is (xs ++ zs))) := by
  intro B0 S κ G σ H sat W tk Q q
  obtain ⟨g1, g2, _⟩ := c.gl hg
  obtain ⟨s1, s2⟩ := Bool.and_eq_true_iff.mp hs
  refine ⟨fun pins s I => ?_⟩
  refine wpAny_Call_Name_kw (ld_glob I g1 hm ?_ g2)
  refine PySem.W.callWith_KW (h₀ := X.base) I.ok.mod.kin hk (hall _) (thn ((ha B0 S κ G σ H sat W tk _ (bindP (R := RepL X.K X.mg) q)).run pos pins s I) fun us s1 ⟨vs, H1, I1, r, xs, κ1, G1, S1, w1, r1, h1⟩ => ?_) (by rw [plain_of hs, hkn]; rfl) (star_of s1 es X.env)
  refine thn ((hkw B0 S1 κ1 G1 σ H1 (sat.ext w1.weak) W tk _ (bindP (R := RepL X.K X.mg) h1)).run pos pins s1 I1) fun ws s2 ⟨zs, H2, I2, rz, ys, κ2, G2, S2, w2, r2, h2⟩ => ⟨I2.kIn, ?_⟩
  rw [hks]
  rw [Mon.run_bind, Mon.run_of] at h2
  unfold chkN at h2
  split at h2
  · rename_i hh
    have h2 : Post X.K X.mg (Mon.pu m) (Rep X.K X.mg) κ2 G2 H2 S2 (Mon.run (g (pickL .non is (xs ++ ys))) S2) Q (fun c d H' => W c d σ H') := h2
    exact runGK c F hj hb tk I2 r rz w2.e.w (r1.mono w2.e.pre w2.e.le) r2 hh.1 hh.2 h2
  · exact h2.elim
/-! ### try: nothing is raised -/
theorem Ctx.nox (c : Ctx X N sc k) : Ctx X.nox N sc k := ⟨c.n, c.sc, c.calm, c.nd, c.gd, c.room, PassesOwn.never⟩
theorem CtxF.nox (c : CtxF X N sc k) : CtxF X.nox N sc k := ⟨c.toCtx.nox, c.fn⟩
theorem st_tryN (c : Ctx X N sc k) {body : List Stmt} {h : ExceptHandler} {hs : List ExceptHandler} {pos : Pos} {r : m ρ} (hb : Sx X.nox E body [] r enc) : St1 X E (.Try body (h :: hs) [] [] pos) (Mon.nx r) enc := by
  intro B0 S κ G σ H sat W tk D q
  rw [Mon.run_nx] at q
  obtain ⟨y, S2, ey, py⟩ := noExn_post q
  refine ws_of (ps_try_thru0 pss_self) ?_
  refine hb B0 S κ G σ H sat (fun _ _ _ _ => False) takesF D ?_
  rw [ey]
  exact py
/-! ### x = y, what y owned goes over -/
theorem Sat.move {K : PySem.W.Frag} {mg : Str → Option Value} {b : Bool} {B0 : Bs} {κ : List Addr} {G H : Hp} {S : Cells} {σ : L2.St} (h : Sat K mg b B0 E S κ G σ H) {i j : Nat} {s : Slot} {a : Addr} (he : E[j]? = some s) (hσ : σ[j]? = some (some (.ref a))) (hi : i < E.length) (hij : i ≠ j) : Sat K mg b B0 ((E.set j .un).set i s) S κ G (σ.set i (some (.ref a))) H := by
  obtain ⟨x, L, so, nd, q⟩ := h
  have hs : j < σ.length := (List.getElem?_eq_some_iff.mp hσ).1
  have key : ∀ {E : Env} {σ : L2.St} {L : List Addr} {j : Nat}, SlotsOk K mg κ G H E σ L → L.Nodup → E[j]? = some s → σ[j]? = some (some (.ref a)) → ∃ L1 L2, SlotOk K mg κ G H s (some (.ref a)) L1 ∧ SlotsOk K mg κ G H (E.set j .un) σ L2 ∧ L1.Nodup ∧ L2.Nodup ∧ (∀ c ∈ L1, c ∈ L) ∧ (∀ c ∈ L2, c ∈ L) ∧ (∀ c ∈ L1, c ∉ L2) := by
    intro E
    induction E with
    | nil => intro σ L j _ _ e; simp at e
    | cons s0 E ih =>
      intro σ L j so nd e eo
      obtain ⟨ov, r, L1, Lr, z1, z2, g1, g2⟩ := so
      subst z1 z2
      obtain ⟨n1, n2, n3⟩ := List.nodup_append.mp nd
      cases j with
      | zero =>
        simp at e eo; subst e eo
        exact ⟨L1, Lr, g1, ⟨some (.ref a), r, [], Lr, rfl, rfl, rfl, g2⟩, n1, n2, fun c m => by simp [m], fun c m => by simp [m], fun c m m' => n3 c m c m' rfl⟩
      | succ j =>
        obtain ⟨M1, M2, w1, w2, w3, w4, w5, w6, w7⟩ := ih g2 n2 (by simpa using e) (by simpa using eo)
        refine ⟨M1, L1 ++ M2, w1, ⟨ov, r, L1, M2, rfl, rfl, g1, w2⟩, w3, List.nodup_append.mpr ⟨n1, w4, fun c m d m' e' => n3 c m d (w6 d m') e'⟩, fun c m => by simp [w5 c m], fun c m => ?_, fun c m m' => ?_⟩
        · rcases List.mem_append.mp m with m | m
          · simp [m]
          · simp [w6 c m]
        · rcases List.mem_append.mp m' with m' | m'
          · exact n3 c m' c (w5 c m) rfl
          · exact w7 c m m'
  obtain ⟨L1, L2, w1, w2, w3, w4, w5, w6, w7⟩ := key so nd he hσ
  obtain ⟨L3, s3, n3, m3⟩ := w2.set (i := i) (s := s) (ov := some (.ref a)) (L1 := L1) (by simpa using hi) w1
  refine ⟨x, L3, s3, n3 w7 w3 w4, fun c m => ?_⟩
  rcases m3 c m with m | m
  · exact q c (w6 c m)
  · exact q c (w5 c m)
/-- x = y, y an owned dict -/
theorem sx_moveD (c : CtxF X N sc k) (i j : Nat) {x y : Str} {p p2 pos : Pos} {kvs : List (Key × Val)} {r : m ρ} (hl : Lk N sc i x) (hn : Nm N sc j y) (he : E[j]? = some (.od kvs)) (hi : i < E.length) (hij : i ≠ j) (hr : Sx X ((E.set j .un).set i (.od kvs)) rest Ks r enc) : Sx X E (.Assign [.Name x p] (.Name y p2) pos :: rest) Ks r enc := by
  intro B0 S κ G σ H sat W tk D q
  obtain ⟨h1, h2⟩ := hl.n
  refine wss_of (pss_cons (ps_set (i := i) (by rw [c.n]; exact c.nd) (by rw [c.n]; exact h1) (by rw [c.sc]; exact h2) (c.pv hn) (swaps_of rfl _ _ _) (.inl (c.fn _))) (pss_self (e := rest))) ?_
  obtain ⟨a, vs, hσ, hH, rl, _, _⟩ := sat.setOD (ys := kvs) he
  exact ⟨.ref a, hσ, hr B0 S κ G _ H (sat.move he hσ hi hij) W tk D q⟩
theorem sx_moveL (c : CtxF X N sc k) (i j : Nat) {x y : Str} {p p2 pos : Pos} {xs : List Val} {r : m ρ} (hl : Lk N sc i x) (hn : Nm N sc j y) (he : E[j]? = some (.o1 xs)) (hi : i < E.length) (hij : i ≠ j) (hr : Sx X ((E.set j .un).set i (.o1 xs)) rest Ks r enc) : Sx X E (.Assign [.Name x p] (.Name y p2) pos :: rest) Ks r enc := by
  intro B0 S κ G σ H sat W tk D q
  obtain ⟨h1, h2⟩ := hl.n
  refine wss_of (pss_cons (ps_set (i := i) (by rw [c.n]; exact c.nd) (by rw [c.n]; exact h1) (by rw [c.sc]; exact h2) (c.pv hn) (swaps_of rfl _ _ _) (.inl (c.fn _))) (pss_self (e := rest))) ?_
  obtain ⟨a, vs, hσ, hH, rl, _⟩ := sat.setO1 (ys := xs) he
  exact ⟨.ref a, hσ, hr B0 S κ G _ H (sat.move he hσ hi hij) W tk D q⟩
end
end Tv

section
set_option maxHeartbeats 1000000
/-! a def by its facts; the law's end -/
namespace Tv
open PySem PySem.Spec PyProof.Rows L2

section
variable {P : Program} {w : World} {K : PySem.W.Frag} {mg : Str → Option Value} {base : Heap} {x qual : Str} {params : Arguments} {body : List Stmt} {scope : Scope} {dvs : List V} {kws : List (Str × V)} {f : Addr} {fd : FuncData} {m : Type → Type} [Mon m]
theorem FnG.toM {P : Program} {w : World} {K : PySem.W.Frag} {mg : Str → Option Value} {base : Heap} {k : Nat} {f : Addr} {fd : FuncData} {ps : List Str} {g : List Val → Res Val} (F : FnG P w K mg base k f fd ps g) : FnG P w K mg base k f fd ps (fun xs => (Mon.of (g xs) : M Val)) where
  len := fun xs h => by rw [F.len xs h]; rfl
  run := fun A outer s H args us vs Q E κ G S xs hr hg e0 hb r hl wd rl hp => F.run A outer s H args us vs Q E κ G S xs hr hg e0 hb r hl wd rl (Post.ofOk (m := M) hp)
theorem okG {N ps : List Str} {k : Nat} {g : List Val → m Val} (F : FunD K x qual params body scope dvs kws f fd) (S : FnScope N ps scope) (hlen : ∀ xs, xs.length ≠ ps.length → g xs = Mon.of .stuck)
    (hb : ∀ (cdv : Value) (A : Around) (outer : List PySem.Env) (s : Shared) (H : Hp) (E : XK) (xs : List Val), CtxF (cxOf (L2.CX P w) P w K mg base N qual scope f cdv A outer s H E) N scope k → xs.length = ps.length →
      Sx (cxOf (L2.CX P w) P w K mg base N qual scope f cdv A outer s H E) (startE N xs) body [] (g xs) .rr) : FnG P w K mg base (k + 1) f fd ps g := by
  obtain ⟨oc, od, dV, kV, doc, pm, an, cdv, ct, osl, e, lk, hcd, _, _⟩ := F.ex
  subst e
  exact fnG_of lk hcd S hlen fun A outer s H E xs c hl => hb cdv A outer s H E xs c hl
end
/-- what the law's call comes to: True, and nothing old is changed -/
def LawOk (s₁ : Shared) (r : Result) (s' : Shared) : Prop := r = .ok (.ret (.bool true)) ∧ OldK s₁.heap s'.heap ∧ s'.os = s₁.os ∧ AllBare s'.gens
section
variable {P : Program} {w : World} {K : PySem.W.Frag} {mg mb : Str → Option Value} {k : Nat} {fa a : Addr} {fd : FuncData} {x : Str} {m : Type → Type} [Mon m] {g : List Val → m Val} {s₁ : Shared} {vs : List Value} {ns : List Int}
/-- the call, with H what is tracked at its start -/
theorem law_at {H : Hp} {base : Heap} (hr : Room k callerA) (hg : s₁.gens = #[]) (hO : Only H) (hS : SqL K H a (ns.map V.int)) (hok : HOk P w H s₁.heap) (hM : Mod K mg base) (hbase : ∀ b o, base.get? b = some o → s₁.heap.get? b = some o ∧ H b = none) (hsz : base.objs.size ≤ s₁.heap.objs.size)
    (F : FnG P w K mg base k fa fd [x] g) (hbind : ∀ (s : Shared) (u : Value), BindsTo s fd ⟨[u], []⟩ [(x, u)]) (hres : ∃ S', Mon.run (g [.scr (ns.map .int)]) [] = (.ok (.bl true), S')) :
    codeAny (model P w) callerA (.call (.ref fa) ⟨[.ref a], []⟩) (LawOk s₁) s₁ := by
  obtain ⟨S', er⟩ := hres
  have e0 : Env0 P w K mg base callerA [] s₁ H := ⟨rfl, hM, hbase, hsz, trivial, (fun b hb => nomatch hb), hok, .of_eq hg⟩
  have wd : Wd K mg [] H H [] := ⟨Le.refl _, .nil, (fun a z => nomatch z), rfl, fun n a c z => (by simp at z)⟩
  have rl : RepL K mg [] H [.scr (ns.map .int)] [.ref a] := .cons (by unfold Rep; exact ⟨a, _, rfl, hS, rep_ints ns⟩) .nil
  have post : Post K mg (Mon.pu m) (Rep K mg) [] H H [] (Mon.run (g [.scr (ns.map .int)]) []) (fun v _ => v = V.bl true) (fun _ _ _ => False) := by
    rw [er]
    exact fun κ' G' H' v _ r => rep_bl r
  refine codeAny_mono (F.run callerA [] s₁ H ⟨[.ref a], []⟩ [.ref a] [.ref a] _ (fun _ _ _ => False) [] H [] _ hr rfl e0 (hbind s₁ (.ref a)) (.cons rfl .nil) rfl wd rl post) fun r s' h => ?_
  cases r with
  | error e =>
    obtain ⟨_, _, _, _, _, _, _, _, _, _, _, _, z⟩ := h
    exact z.elim
  | ok fl =>
    cases fl with
    | next => exact h.elim
    | brk => exact h.elim
    | cont => exact h.elim
    | ret u =>
      obtain ⟨v, H', os, bare, un, hok', r', q⟩ := h
      have q : v = .bl true := q
      subst q
      obtain rfl : u = Value.bool true := r'
      refine ⟨rfl, .of_keep fun b o e => ?_, os, bare⟩
      cases q : H b with
      | none => exact un.keep b o e q (fun z => nomatch z) (by simp)
      | some z =>
        rcases hO b with y | ⟨ob, xs, y⟩
        · rw [q] at y; cases y
        · obtain ⟨e1, _⟩ := hok b _ y
          obtain ⟨e2, _⟩ := hok' b _ (un.frzs b ob _ y)
          rw [e] at e1
          cases e1
          exact e2
/-- the same, whether the script is the module's own object or not -/
theorem law_callG (KX : K.In s₁.heap) (hns : s₁.heap.Ns mainGlobals mg) (hb : s₁.heap.Ns builtinsNs mb) (hbb : ∀ x : Str, x ≠ "__name__" → mb x = bootBuiltins x) (hlim : s₁.heap.NoLimit) (hg : s₁.gens = #[])
    (ha : s₁.heap.get? a = some { cls := .type "list", data := .seq vs.toArray }) (hi : IntsAre vs ns) (hl : ns.length ≤ sizeLine) (hr : Room k callerA)
    (F : ∀ base : Heap, K.In base → base.Ns mainGlobals mg → FnG P w K mg base k fa fd [x] g) (hbind : ∀ (s : Shared) (u : Value), BindsTo s fd ⟨[u], []⟩ [(x, u)]) (hres : ∃ S', Mon.run (g [.scr (ns.map .int)]) [] = (.ok (.bl true), S')) :
    codeAny (model P w) callerA (.call (.ref fa) ⟨[.ref a], []⟩) (LawOk s₁) s₁ := by
  have rv := vals_ints hi
  have key : ∀ H : Hp, Only H → SqL K H a (ns.map V.int) → HOk P w H s₁.heap → (∀ b, H b ≠ none → b = a ∧ K.lookup a = none) → codeAny (model P w) callerA (.call (.ref fa) ⟨[.ref a], []⟩) (LawOk s₁) s₁ := fun H hO hS hok hA => by
    have free : ∀ {b : Addr}, (b ≠ a ∨ K.lookup a ≠ none) → H b = none := fun {b} h => by
      cases q : H b with
      | none => rfl
      | some u =>
        obtain ⟨e1, e2⟩ := hA b (by rw [q]; exact fun z => nomatch z)
        rcases h with h | h
        · exact absurd e1 h
        · exact absurd e2 h
    have notA : ∀ {b : Addr} {o : Obj}, s₁.heap.get? b = some o → (∀ xs n, o.data ≠ .seq xs n) → H b = none := fun {b o} e d => free (.inl fun z => by
      subst z
      rw [ha] at e
      cases e
      exact d _ _ rfl)
    have nsK : ∀ {b : Addr} {m : Str → Option Value}, s₁.heap.Ns b m → (hidT s₁.heap H).Ns b m := fun {b m} ⟨o, es, ep, e, d, r⟩ => ⟨o, es, ep, hidT_get e (notA e fun xs n z => by rw [d] at z; cases z), d, r⟩
    have hKb : K.In (hidT s₁.heap H) := fun b o e => hidT_get (KX b o e) (by
      by_cases hb : b = a
      · exact free (.inr fun z => by rw [hb, z] at e; cases e)
      · exact free (.inl hb))
    obtain ⟨mc, c1, c2⟩ := hlim
    exact law_at hr hg hO hS hok ⟨hKb, nsK hns, ⟨mb, nsK hb, hbb⟩, ⟨mc, nsK c1, c2⟩⟩ (fun b o e => of_hidT e) (Nat.le_of_eq (hidT_size _ _)) (F _ hKb (nsK hns)) hbind hres
  cases hk : K.lookup a with
  | some o =>
    have e := KX a o hk
    rw [ha] at e
    cases e
    exact key (fun _ => none) (fun _ => .inl rfl) (.inr ⟨_, vs.toArray, _, hk, rfl, rfl, rfl, by rw [List.size_toArray, hi.length]; exact hl, by simpa using rv⟩) (fun b u z => nomatch z) fun b z => absurd rfl z
  | none =>
    obtain ⟨o, eo⟩ : ∃ o : HO, o = .frz { cls := .type "list", data := .seq vs.toArray } (.lst (ns.map V.int)) := ⟨_, rfl⟩
    have one : ∀ {b : Addr} {u : HO}, L2.upd (fun _ => none) a o b = some u → b = a ∧ u = o := fun {b u} z => by
      by_cases hb : b = a
      · subst hb; rw [upd_same] at z; cases z; exact ⟨rfl, rfl⟩
      · rw [upd_ne hb] at z; cases z
    refine key (L2.upd (fun _ => none) a o) (fun b => ?_) (.inl (.inr ⟨_, by rw [upd_same, eo]⟩)) (fun b u z => ?_) fun b z => ?_
    · cases q : L2.upd (fun _ => none) a o b with
      | none => exact .inl rfl
      | some u =>
        obtain ⟨_, e⟩ := one q
        exact .inr ⟨_, _, by rw [e, eo]⟩
    · obtain ⟨e1, e2⟩ := one z
      subst e1 e2 eo
      exact ⟨ha, by rw [List.length_map]; exact hl, vs, _, rv, ha⟩
    · cases q : L2.upd (fun _ => none) a o b with
      | none => exact absurd q z
      | some u => exact ⟨(one q).1, hk⟩
end
/-- A LAW'S END over a head by facts -/
theorem walk_ofG {l : PySem.W.OpenLaw} {n k : Nat} {q : Program} {loose : List Str} {XP : (Str → Option Value) → Heap → Prop} {YP : World → Heap → Prop} {d : DefRec} {x : Str} {m : Type → Type} [Mon m]
    (hn : l.most = some n) (hn2 : n ≤ sizeLine) (hdf : d.params.defaults = []) (hr : Room k callerA)
    (F : ∀ (w : World) (mg : Str → Option Value) (fa : Addr) (h : Heap), YP w h → h.Ns mainGlobals mg → mg d.name = some (.ref fa) →
      ∃ (K : PySem.W.Frag) (fd : FuncData) (g : List Val → m Val), K.In h ∧ (∀ (s : Shared) (u : Value), BindsTo s fd ⟨[u], []⟩ [(x, u)]) ∧
        (∀ ns : List Int, ns.length ≤ n → ∃ S', Mon.run (g [.scr (ns.map .int)]) [] = (.ok (.bl true), S')) ∧
        ∀ base : Heap, K.In base → base.Ns mainGlobals mg → FnG l.prog w K mg base k fa fd [x] g) :
    PySem.W.WalkO q loose XP YP l.row.toRowW d [] (fun f vs => PySem.call f vs) := by
  refine Att.attach_call hn hdf fun w s₀ s₁ mg mb fa o pm cd doc a vs ns G Y ho hd hcd hmg hobj hints hlen hg => ?_
  obtain ⟨K, fd, g, KX, hb, hres, hF⟩ := F w mg fa _ Y G.T.g hmg
  exact law_callG KX G.T.g G.T.b G.T.builtins G.T.nolimit hg hobj hints (Nat.le_trans hlen hn2) hr hF hb (hres ns hlen)
end Tv

end
/-! what the printed derivations use -/
namespace Tv
open PySem PySem.Spec PyProof.Rows L2

section
variable {X : Cx} {N : List Str} {sc : Scope} {k : Nat} {E : Env} {m : Type → Type} [Mon m] {ρ : Type} {enc : ρ → Out} {rest : List Stmt} {Ks : List (List Stmt)}
/-- the outcome told anew -/
theorem st_map {ρ1 : Type} {s : Stmt} {r : m ρ1} {enc1 : ρ1 → Out} {f : ρ1 → m ρ} (h : St1 X E s r enc1) (hf : ∀ a, (∃ y, f a = Pure.pure y ∧ enc y = enc1 a) ∨ f a = Mon.of .stuck) : St1 X E s (r >>= f) enc := by
  intro B0 S κ G σ H sat W tk D q
  refine h B0 S κ G σ H sat W tk D ?_
  rw [Mon.run_bind] at q
  have q : PostS X.K X.mg (Mon.pu m) B0 (M.bind (Mon.run r) (fun a => Mon.run (f a)) S) enc D W := q
  unfold M.bind at q
  cases e : Mon.run r S with
  | mk r S' =>
    rw [e] at q
    cases r with
    | ok a =>
      have q : PostS X.K X.mg (Mon.pu m) B0 (Mon.run (f a) S') enc D W := q
      rcases hf a with ⟨y, e1, e2⟩ | e1
      · rw [e1] at q
        have q2 := postPure q
        show PostO X.K X.mg (Mon.pu m) B0 S' D (enc1 a)
        rw [← e2]
        exact q2
      · rw [e1, Mon.run_of] at q
        exact q.elim
    | exn c fs => exact q
    | stuck => exact q
/-- a loop that only goes on -/
def onlyNx {ρ τ : Type} : Fl ρ τ → m ρ
  | .nx st => Pure.pure st
  | _ => Mon.of .stuck
/-- a loop that goes on or hands back -/
def nxRt {ρ τ : Type} : Fl ρ τ → m (ρ ⊕ τ)
  | .nx st => Pure.pure (.inl st)
  | .rt t => Pure.pure (.inr t)
  | _ => Mon.of .stuck
def encSt (enc0 : ρ → Env) : ρ → Out := fun st => .nx (enc0 st)
def encSum {τ : Type} (enc0 : ρ → Env) (tv : τ → Val) : ρ ⊕ τ → Out
  | .inl st => .nx (enc0 st)
  | .inr t => .rt (tv t)
theorem st_only {τ : Type} {s : Stmt} {r : m (Fl ρ τ)} {enc0 : ρ → Env} {tv : τ → Val} (h : St1 X E s r (encL enc0 tv)) : St1 X E s (r >>= onlyNx) (encSt enc0) :=
  st_map h fun a => match a with
    | .nx st => .inl ⟨st, rfl, rfl⟩
    | .ct _ => .inr rfl
    | .bk _ => .inr rfl
    | .rt _ => .inr rfl
theorem st_nxRt {τ : Type} {s : Stmt} {r : m (Fl ρ τ)} {enc0 : ρ → Env} {tv : τ → Val} (h : St1 X E s r (encL enc0 tv)) : St1 X E s (r >>= nxRt) (encSum enc0 tv) :=
  st_map h fun a => match a with
    | .nx st => .inl ⟨_, rfl, rfl⟩
    | .rt t => .inl ⟨_, rfl, rfl⟩
    | .ct _ => .inr rfl
    | .bk _ => .inr rfl
/-- a statement that goes on, then the rest -/
theorem sx_then {ρ1 : Type} {s : Stmt} {r1 : m ρ1} {enc0 : ρ1 → Env} {f : ρ1 → m ρ} (h : St1 X E s r1 (encSt enc0)) (hr : ∀ st, Sx X (enc0 st) rest Ks (f st) enc) : Sx X E (s :: rest) Ks (r1 >>= f) enc := sx_seq h hr
/-- one that goes on or hands back -/
def orRt {ρ1 τ : Type} (f : ρ1 → m ρ) (g : τ → ρ) : ρ1 ⊕ τ → m ρ
  | .inl st => f st
  | .inr t => Pure.pure (g t)
theorem sx_thenR {ρ1 τ : Type} {s : Stmt} {r1 : m (ρ1 ⊕ τ)} {enc0 : ρ1 → Env} {tv : τ → Val} {f : ρ1 → m ρ} {g : τ → ρ} (h : St1 X E s r1 (encSum enc0 tv)) (hr : ∀ st, Sx X (enc0 st) rest Ks (f st) enc) (hg : ∀ t, IsRt (enc (g t)) (tv t)) : Sx X E (s :: rest) Ks (r1 >>= orRt f g) enc :=
  sx_seq h fun a => match a with
    | .inl st => hr st
    | .inr t => ⟨_, rfl, hg t⟩
/-- the end of a block, some slots forgotten -/
theorem sx_endF (is : List Nat) {x : ρ} {E' : Env} (h : enc x = .nx E') (he : unset E is = E') : Sx X E [] [] (Pure.pure x : m ρ) enc := by
  intro B0 S κ G σ H sat W tk D q
  have q2 : PostO X.K X.mg (Mon.pu m) B0 S D (enc x) := postPure q
  rw [h] at q2
  exact wss_of pss_nil (q2 κ G σ H (he ▸ sat.unset is))
theorem sx_contF (is : List Nat) {pos : Pos} {x : ρ} {E' : Env} (h : enc x = .ct E') (he : unset E is = E') : Sx X E (.Continue pos :: rest) Ks (Pure.pure x : m ρ) enc := by
  intro B0 S κ G σ H sat W tk D q
  refine wss_of (pss_cons ps_continue (pss_self (e := rest))) ?_
  show (DK X Ks D).ct σ H
  rw [DK_ct]
  have q2 : PostO X.K X.mg (Mon.pu m) B0 S D (enc x) := postPure q
  rw [h] at q2
  exact q2 κ G σ H (he ▸ sat.unset is)
theorem sx_brkF (is : List Nat) {pos : Pos} {x : ρ} {E' : Env} (h : enc x = .bk E') (he : unset E is = E') : Sx X E (.Break pos :: rest) Ks (Pure.pure x : m ρ) enc := by
  intro B0 S κ G σ H sat W tk D q
  refine wss_of (pss_cons ps_break (pss_self (e := rest))) ?_
  show (DK X Ks D).bk σ H
  rw [DK_bk]
  have q2 : PostO X.K X.mg (Mon.pu m) B0 S D (enc x) := postPure q
  rw [h] at q2
  exact q2 κ G σ H (he ▸ sat.unset is)
/-- slots forgotten ahead of a block -/
theorem sx_forget (is : List Nat) {ss : List Stmt} {r : m ρ} {E' : Env} (he : unset E is = E') (h : Sx X E' ss Ks r enc) : Sx X E ss Ks r enc := by
  intro B0 S κ G σ H sat W tk D q
  exact h B0 S κ G σ H (he ▸ sat.unset is) W tk D q
/-- x = [..], x a plain local: stored at the comprehension's own end -/
theorem sx_asgLc (c : CtxF X N sc k) (i : Nat) {x : Str} {elt : Expr} {gs : List Comprehension} {scope : Scope} {epos p pos : Pos} {r : m Val} {f : Val → m ρ} (hl : Lc N sc i x) (hi : i < E.length) (h : EvLc X E (.ListComp elt gs scope epos) r) (hr : ∀ v, Sx X (E.set i (.fz v)) rest Ks (f v) enc)
    (hk : sc.kind = .function) (hp : (p.line == epos.line) = true) (ha : (scope.names.any fun (n, k) => n == x && (k == .local || k == .cell)) = false) : Sx X E (.Assign [.Name x p] (.ListComp elt gs scope epos) pos :: rest) Ks (r >>= f) enc := by
  intro B0 S κ G σ H sat W tk D q
  obtain ⟨h1, h2⟩ := hl.n
  refine wss_of (pss_cons (ps_self (e := .Assign [.Name x p] (.ListComp elt gs scope epos) pos)) (pss_self (e := rest))) ?_
  refine h.2 i x p pos (by rw [c.n]; exact h1) (by rw [c.sc]; exact h2) (sw_true (by rw [c.sc]; exact hk) (by rw [c.sc]; exact h2) hp ha) B0 S κ G σ H sat.weak W tk _ (bindS sat q fun v vv κ1 G1 H1 S1 sat1 r1 hq ex => ?_)
  exact hr v B0 S1 κ1 G1 _ H1 (sat1.setFz hi r1) W tk D hq
/-- .. x a cell, or on another line -/
theorem sx_asgLcC (c : CtxF X N sc k) (i : Nat) {x : Str} {elt : Expr} {gs : List Comprehension} {scope : Scope} {epos p pos : Pos} {r : m Val} {f : Val → m ρ} (hl : Lk N sc i x) (hi : i < E.length) (h : EvLc X E (.ListComp elt gs scope epos) r) (hr : ∀ v, Sx X (E.set i (.fz v)) rest Ks (f v) enc)
    (ha : (decide (sc.names.lookup x = some .local) && (p.line == epos.line) && !(scope.names.any fun (n, k) => n == x && (k == .local || k == .cell))) = false) : Sx X E (.Assign [.Name x p] (.ListComp elt gs scope epos) pos :: rest) Ks (r >>= f) enc := by
  intro B0 S κ G σ H sat W tk D q
  obtain ⟨h1, h2⟩ := hl.n
  have hs : swapsWith (.ListComp elt gs scope epos) (some (.Name x p)) pos.line X.env = pure false := by
    unfold swapsWith
    have e : (X.env.kindOf x == some .local) = decide (sc.names.lookup x = some .local) := by
      show (X.env.scope.names.lookup x == some .local) = _
      rw [c.sc]
      rw [Bool.eq_iff_iff, decide_eq_true_iff, beq_iff_eq]
    show (pure (X.env.blockKind == .function && X.env.kindOf x == some .local && p.line == epos.line && !(scope.names.any fun (n, k) => n == x && (k == .local || k == .cell))) : Sem Bool) = pure false
    rw [e]
    cases X.env.blockKind == .function
    · rfl
    · rw [Bool.true_and, ha]
  refine wss_of (pss_cons (ps_set (i := i) (by rw [c.n]; exact c.nd) (by rw [c.n]; exact h1) (by rw [c.sc]; exact h2) pe_self hs (.inl (c.fn _))) (pss_self (e := rest))) ?_
  refine h.1 B0 S κ G σ H sat.weak W tk _ (bindS sat q fun v vv κ1 G1 H1 S1 sat1 r1 hq ex => ?_)
  exact hr v B0 S1 κ1 G1 _ H1 (sat1.setFz hi r1) W tk D hq
theorem kwB_of {K : PySem.W.Frag} {x qual : Str} {params : Arguments} {body : List Stmt} {scope : Scope} {kws : List (Str × V)} {f : Addr} {fd : FuncData} {ps ks : List Str} {p : Nat} {is : List Nat} (F : FunD K x qual params body scope [] kws f fd)
    (h : ∀ (kV doc pm : Value) (an : Option Addr) (cdv ct : Value) (us ws : List Value), us.length = p → ws.length = ks.length → bindArgs (PySem.W.fnOf x qual params body scope .none kV doc pm an cdv ct) ⟨us, ks.zip ws⟩ = pure (ps.zip (pickL .none is (us ++ ws)))) : KwB K fd ps ks p is := by
  obtain ⟨oc, od, dV, kV, doc, pm, an, cdv, ct, osl, rfl, lk, hcd, hD, hK⟩ := F.ex
  rcases hD with ⟨_, rfl⟩ | ⟨e, _⟩
  · exact fun s us ws _ h1 h2 => BindsTo.of_eq (h kV doc pm an cdv ct us ws h1 h2)
  · exact absurd rfl e
/-- x = y, y a frozen value -/
theorem sx_copy (c : CtxF X N sc k) (i j : Nat) {x y : Str} {p p2 pos : Pos} {v : Val} {r : m ρ} (hl : Lk N sc i x) (hn : Nm N sc j y) (he : E[j]? = some (.fz v)) (hi : i < E.length) (hr : Sx X (E.set i (.fz v)) rest Ks r enc) : Sx X E (.Assign [.Name x p] (.Name y p2) pos :: rest) Ks r enc := by
  intro B0 S κ G σ H sat W tk D q
  obtain ⟨h1, h2⟩ := hl.n
  refine wss_of (pss_cons (ps_set (i := i) (by rw [c.n]; exact c.nd) (by rw [c.n]; exact h1) (by rw [c.sc]; exact h2) (c.pv hn) (swaps_of rfl _ _ _) (.inl (c.fn _))) (pss_self (e := rest))) ?_
  obtain ⟨_, L, so, _, _⟩ := id sat
  obtain ⟨ov, L1, hσ, ⟨_, u, hu, ru⟩, _⟩ := so.get he
  subst hu
  exact ⟨u, hσ, hr B0 S κ G _ H (sat.setFz hi ru) W tk D q⟩
end
end Tv

/-! the head's facts: defs, names, tables of ints -/
namespace Tv
open PySem PySem.Spec PyProof.Rows L2

/-- a module's tuple of ints -/
abbrev TabI : Type := Str × List Int
def tabOk (K : PySem.W.Frag) (t : TabI) : Bool := He.tupB K t.1 (t.2.map He.Dv.int)
theorem tab_sq {K : PySem.W.Frag} {t : TabI} (h : tabOk K t = true) (H : Hp) : SqT K H (He.ga K t.1) (t.2.map V.int) := by
  have q := He.tupB_ok (K := K) (x := t.1) h H
  rwa [List.map_map] at q
abbrev AlX : Type := Bool × He.AlD
def obsX (fa : List He.Fa) (fn : List He.DefD) (ts : List TabI) (K : PySem.W.Frag) : AlX := (ts.all (tabOk K), He.obsD fa fn K)
def obsXG (n : Nat) (fa : List He.Fa) (fn : List He.DefD) (ts : List TabI) (g : Addr → Option Obj) : AlX := obsX fa fn ts (He.frG g (He.asD g n))
def SaysX (fa : List He.Fa) (fn : List He.DefD) (ts : List TabI) (K : PySem.W.Frag) : Prop := obsX fa fn ts K = (true, He.valD fn)
def hookX (n : Nat) (fa : List He.Fa) (fn : List He.DefD) (ts : List TabI) : PySem.W.Hook where
  α := AlX
  obs := fun s => obsXG n fa fn ts s.heap.get?
  val := fun _ => (true, He.valD fn)
  says := fun _ h => ∃ K : PySem.W.Frag, K.In h ∧ SaysX fa fn ts K
  of := fun _ _ e => ⟨_, He.frG_in, e⟩
  keeps := fun _ _ _ ⟨K, hK, c⟩ k => ⟨K, PySem.W.Frag.In.keeps hK k, c⟩
theorem obsXG_eq {n : Nat} {fa : List He.Fa} {fn : List He.DefD} {ts : List TabI} {g : Addr → Option Obj} {s : Shared} (h : ∀ a, g a = s.heap.get? a) : obsXG n fa fn ts g = (hookX n fa fn ts).obs s := by
  have e : g = s.heap.get? := funext h
  rw [e]; rfl
section
variable {fa : List He.Fa} {fn : List He.DefD} {ts : List TabI} {K : PySem.W.Frag}
theorem SaysX.d (c : SaysX fa fn ts K) : He.SaysD fa fn K := congrArg (fun z : AlX => z.2) c
theorem SaysX.tab (c : SaysX fa fn ts K) (i : Nat) {t : TabI} (h : ts[i]? = some t := by rfl) : tabOk K t = true :=
  List.all_eq_true.mp (congrArg (fun z : AlX => z.1) c) t (List.mem_of_getElem? h)
end
end Tv

/-! owned slots in general; owned lists of lists -/
namespace Tv
open PySem PySem.Spec PyProof.Rows L2

section
variable {K : PySem.W.Frag} {mg : Str → Option Value} {κ κ1 : List Addr} {G G1 H H1 : Hp} {S S1 : Cells} {b : Bool} {B0 : Bs} {E : Env} {σ : L2.St}
theorem SlotsOk.swap : ∀ {E : Env} {σ : L2.St} {L : List Addr} {i : Nat} {s : Slot}, SlotsOk K mg κ G H E σ L → L.Nodup → E[i]? = some s → ∃ ov L1, σ[i]? = some ov ∧ SlotOk K mg κ G H s ov L1 ∧ L1.Nodup ∧ (∀ c ∈ L1, c ∈ L) ∧
    ∀ (s' : Slot) (L1' : List Addr) (G' H' : Hp), Le G G' → SlotOk K mg κ G' H' s' ov L1' → (∀ c ∈ L, c ∉ L1 → H' c = H c) → L1'.Nodup → (∀ c ∈ L1', c ∈ L1) →
      ∃ L', SlotsOk K mg κ G' H' (E.set i s') σ L' ∧ L'.Nodup ∧ ∀ c ∈ L', c ∈ L1' ∨ (c ∈ L ∧ c ∉ L1)
  | [], _, _, i, s, _, _, e => by simp at e
  | t :: E, _, _, 0, s, h, nd, e => by
    obtain ⟨ov, r, L1, L2, e1, e2, h1, h2⟩ := h
    subst e1 e2
    simp at e; subst e
    obtain ⟨n1, n2, n3⟩ := List.nodup_append.mp nd
    refine ⟨ov, L1, rfl, h1, n1, fun c m => by simp [m], fun s' L1' G' H' lg hs hH nd' hm => ?_⟩
    refine ⟨L1' ++ L2, ⟨ov, r, L1', L2, rfl, rfl, hs, h2.mono (Pre.refl _) lg fun c m => hH c (by simp [m]) fun z => n3 c z c m rfl⟩, List.nodup_append.mpr ⟨nd', n2, fun c m d m' z => n3 c (hm c m) d m' z⟩, fun c m => ?_⟩
    rcases List.mem_append.mp m with m | m
    · exact .inl m
    · exact .inr ⟨by simp [m], fun z => n3 c z c m rfl⟩
  | t :: E, _, _, i + 1, s, h, nd, e => by
    obtain ⟨ov, r, L0, L2, e1, e2, h1, h2⟩ := h
    subst e1 e2
    obtain ⟨n1, n2, n3⟩ := List.nodup_append.mp nd
    obtain ⟨ov', L1, q1, q2, q3, q4, q5⟩ := SlotsOk.swap h2 n2 (i := i) (by simpa using e)
    refine ⟨ov', L1, by simpa using q1, q2, q3, fun c m => by simp [q4 c m], fun s' L1' G' H' lg hs hH nd' hm => ?_⟩
    obtain ⟨L', w1, w2, w3⟩ := q5 s' L1' G' H' lg hs (fun c m n => hH c (by simp [m]) n) nd' hm
    refine ⟨L0 ++ L', ⟨ov, r, L0, L', rfl, rfl, h1.mono (Pre.refl _) lg fun c m => hH c (by simp [m]) fun z => n3 c m c (q4 c z) rfl, w1⟩, List.nodup_append.mpr ⟨n1, w2, fun c m d m' z => ?_⟩, fun c m => ?_⟩
    · subst z
      rcases w3 c m' with z | ⟨z, _⟩
      · exact n3 c m c (q4 c (hm c z)) rfl
      · exact n3 c m c z rfl
    · rcases List.mem_append.mp m with m | m
      · exact .inr ⟨by simp [m], fun z => n3 c m c (q4 c z) rfl⟩
      · rcases w3 c m with z | ⟨z1, z2⟩
        · exact .inl z
        · exact .inr ⟨by simp [z1], z2⟩
theorem CRep.at {a : Addr} {c : Val} (e : H1 a = H a) (h : CRep K mg κ G H a c) : CRep K mg κ G H1 a c := by
  cases c with
  | lst xs => obtain ⟨vs, q, r⟩ := h; exact ⟨vs, by rw [e]; exact q, r⟩
  | obj C fs => obtain ⟨Ca, dx, vs, c, q, r⟩ := h; exact ⟨Ca, dx, vs, c, by rw [e]; exact q, r⟩
  | dic xs => obtain ⟨vs, q, r⟩ := h; exact ⟨vs, by rw [e]; exact q, r⟩
  | _ => exact h.elim
theorem ExtS.ownM (x : ExtS K mg b B0 κ G H S) {L : List Addr} (h0 : ∀ c ∈ L, B0.H c = none ∧ G c = none ∧ c ∉ κ) (hH : ∀ c, c ∉ L → H1 c = H c) : ExtS K mg b B0 κ G H1 S := by
  obtain ⟨x, pf, lf⟩ := x
  have out : ∀ c u, B0.H c = some u → c ∉ L := fun c u e m => by rw [(h0 c m).1] at e; cases e
  refine ⟨⟨⟨x.e.pre, x.e.le, fun c u h n => (hH c (out c u h)).trans (x.e.keep c u h n), x.e.newG, x.e.newC, ⟨fun c u h => ?_, x.e.w.nd, x.e.w.ap, x.e.w.len, fun n a c h1 h2 => ?_⟩⟩, fun p => ?_⟩, pf, lf⟩
  · rw [hH c fun m => by rw [(h0 c m).2.1] at h; cases h]; exact x.e.w.le c u h
  · exact (x.e.w.cel n a c h1 h2).at (hH a fun m => (h0 a m).2.2 (List.mem_of_getElem? h1))
  · obtain ⟨p1, p2, p3⟩ := x.p p
    exact ⟨p1, p2, fun c u h => (hH c (out c u h)).trans (p3 c u h)⟩
theorem ExtS.freezeM : ∀ {L : List Addr} {G : Hp}, ExtS K mg b B0 κ G H S → L.Nodup → (∀ c ∈ L, B0.H c = none ∧ G c = none ∧ c ∉ κ ∧ H c ≠ none) →
    ∃ G', ExtS K mg b B0 κ G' H S ∧ Le G G' ∧ (∀ c ∈ L, G' c = H c) ∧ ∀ c, c ∉ L → G' c = G c
  | [], G, x, _, _ => ⟨G, x, Le.refl _, (fun c m => by cases m), fun c _ => rfl⟩
  | a :: L, G, x, nd, h => by
    obtain ⟨n1, n2⟩ := List.nodup_cons.mp nd
    obtain ⟨q1, q2, q3, q4⟩ := h a List.mem_cons_self
    obtain ⟨o, ho⟩ := Option.ne_none_iff_exists'.mp q4
    obtain ⟨x1, l1⟩ := x.freeze q1 q2 q3 ho
    obtain ⟨G', y1, y2, y3, y4⟩ := ExtS.freezeM x1 n2 fun c m => by
      obtain ⟨p1, p2, p3, p4⟩ := h c (List.mem_cons_of_mem _ m)
      exact ⟨p1, by rw [upd_ne (show c ≠ a from fun e => n1 (e ▸ m))]; exact p2, p3, p4⟩
    refine ⟨G', y1, l1.trans y2, fun c m => ?_, fun c m => ?_⟩
    · rcases List.mem_cons.mp m with e | m
      · subst e
        rw [ho]
        exact y2 c o upd_same
      · exact y3 c m
    · rw [y4 c fun z => m (List.mem_cons_of_mem _ z), upd_ne (show c ≠ a from fun e => m (by rw [e]; exact List.mem_cons_self))]
/-- what an owned slot may become -/
theorem Sat.swap (h : Sat K mg b B0 E S κ G σ H) {i : Nat} {s : Slot} (he : E[i]? = some s) : ∃ ov L1, σ[i]? = some ov ∧ SlotOk K mg κ G H s ov L1 ∧ L1.Nodup ∧ (∀ c ∈ L1, B0.H c = none ∧ G c = none ∧ c ∉ κ ∧ H c ≠ none) ∧
    (∀ (s' : Slot) (H' : Hp), SlotOk K mg κ G H' s' ov L1 → (∀ c, c ∉ L1 → H' c = H c) → (∀ c ∈ L1, H' c ≠ none) → Sat K mg b B0 (E.set i s') S κ G σ H') ∧
    (∀ (x : Val) (v : V), ov = some v → (∀ G', Le G G' → (∀ c ∈ L1, G' c = H c) → Rep K mg κ G' x v) → ∃ G', Sat K mg b B0 (E.set i (.fz x)) S κ G' σ H) := by
  obtain ⟨x, L, so, nd, q⟩ := h
  obtain ⟨ov, L1, q1, q2, q3, q4, q5⟩ := so.swap nd he
  have qL : ∀ c ∈ L1, B0.H c = none ∧ G c = none ∧ c ∉ κ ∧ H c ≠ none := fun c m => q c (q4 c m)
  refine ⟨ov, L1, q1, q2, q3, qL, fun s' H' hs hH ht => ?_, fun y v ev hr => ?_⟩
  · obtain ⟨L', w1, w2, w3⟩ := q5 s' L1 G H' (Le.refl _) hs (fun c _ n => hH c n) q3 (fun c m => m)
    refine ⟨x.ownM (L := L1) (fun c m => ⟨(qL c m).1, (qL c m).2.1, (qL c m).2.2.1⟩) hH, L', w1, w2, fun c m => ?_⟩
    rcases w3 c m with z | ⟨z, n⟩
    · obtain ⟨p1, p2, p3, _⟩ := qL c z
      exact ⟨p1, p2, p3, ht c z⟩
    · obtain ⟨p1, p2, p3, p4⟩ := q c z
      exact ⟨p1, p2, p3, by rw [hH c n]; exact p4⟩
  · obtain ⟨G', x2, lg, g1, g2⟩ := x.freezeM q3 qL
    obtain ⟨L', w1, w2, w3⟩ := q5 (.fz y) [] G' H lg ⟨rfl, v, ev, hr G' lg g1⟩ (fun _ _ _ => rfl) List.nodup_nil fun c m => nomatch m
    refine ⟨G', x2, L', w1, w2, fun c m => ?_⟩
    rcases w3 c m with z | ⟨z, n⟩
    · nomatch z
    · obtain ⟨p1, p2, p3, p4⟩ := q c z
      exact ⟨p1, by rw [g2 c n]; exact p2, p3, p4⟩
theorem Rows.get : ∀ {xss : List (List Val)} {as : List Addr}, Rows K mg κ G H xss as → as.length = xss.length ∧ ∀ {j : Nat} {xs : List Val}, xss[j]? = some xs → ∃ a vs, as[j]? = some a ∧ H a = some (.lst vs) ∧ RepL K mg κ G xs vs
  | [], _, h => by
    have h : _ = [] := h
    subst h
    exact ⟨rfl, fun e => by simp at e⟩
  | xs :: xss, _, h => by
    obtain ⟨a, r, vs, e, h1, h2, h3⟩ := h
    subst e
    obtain ⟨l, g⟩ := Rows.get h3
    refine ⟨by simp [l], fun {j xs'} e => ?_⟩
    cases j with
    | zero => simp at e; subst e; exact ⟨a, vs, rfl, h1, h2⟩
    | succ j => simpa using g (by simpa using e)
theorem Rows.set : ∀ {xss : List (List Val)} {as : List Addr}, Rows K mg κ G H xss as → as.Nodup → ∀ {j : Nat} {a : Addr} {xs : List Val} {vs : List V}, as[j]? = some a → RepL K mg κ G xs vs → Rows K mg κ G (L2.upd H a (.lst vs)) (xss.set j xs) as
  | [], _, h, _, j, a, xs, vs, e, _ => by
    have h : _ = [] := h
    subst h
    simp at e
  | ys :: xss, _, h, nd, j, a, xs, vs, e, r => by
    obtain ⟨a0, r0, vs0, e0, h1, h2, h3⟩ := h
    subst e0
    obtain ⟨n1, n2⟩ := List.nodup_cons.mp nd
    cases j with
    | zero =>
      simp at e; subst e
      exact ⟨a0, r0, vs, rfl, upd_same, r, h3.mono (Pre.refl _) (Le.refl _) fun c m => upd_ne fun z => n1 (z ▸ m)⟩
    | succ j =>
      have e : r0[j]? = some a := by simpa using e
      have ne : a0 ≠ a := fun z => n1 (z ▸ List.mem_of_getElem? e)
      exact ⟨a0, r0, vs0, rfl, by rw [upd_ne ne]; exact h1, h2, Rows.set h3 n2 e r⟩
theorem Rows.rep : ∀ {xss : List (List Val)} {as : List Addr}, Rows K mg κ G H xss as → ∀ {G'}, Le G G' → (∀ c ∈ as, G' c = H c) → RepL K mg κ G' (xss.map .lst) (as.map .ref)
  | [], _, h, _, _, _ => by
    have h : _ = [] := h
    subst h
    exact .nil
  | xs :: xss, _, h, _, lg, q => by
    obtain ⟨a, r, vs, e, h1, h2, h3⟩ := h
    subst e
    refine .cons ?_ (Rows.rep h3 lg fun c m => q c (List.mem_cons_of_mem _ m))
    unfold Rep
    exact ⟨a, vs, rfl, (q a List.mem_cons_self).trans h1, h2.mono (Pre.refl _) lg⟩
theorem map_get_ref {as : List Addr} {j : Nat} {a : Addr} (h : as[j]? = some a) : (as.map V.ref)[j]? = some (.ref a) := by rw [List.getElem?_map, h]; rfl
end

section
variable {X : Cx} {N : List Str} {sc : Scope} {k : Nat} {E : Env} {m : Type → Type} [Mon m] {ρ : Type} {enc : ρ → Out} {rest : List Stmt} {Ks : List (List Stmt)}
/-- an owned list of lists is changed no more -/
theorem sx_freeze2 (i : Nat) {ss : List Stmt} {r : m ρ} {xss : List (List Val)} (he : E[i]? = some (.o2 xss)) (h : Sx X (E.set i (.fz (.lst (xss.map .lst)))) ss Ks r enc) : Sx X E ss Ks r enc := by
  intro B0 S κ G σ H sat W tk D q
  obtain ⟨ov, L1, _, ⟨a, as, eL, ev, hH, hr⟩, _, _, _, fz⟩ := sat.swap he
  obtain ⟨G', s1⟩ := fz (.lst (xss.map .lst)) (.ref a) ev fun G' lg hc => by
    subst eL
    unfold Rep
    exact ⟨a, _, rfl, (hc a List.mem_cons_self).trans hH, hr.rep lg fun c m => hc c (List.mem_cons_of_mem _ m)⟩
  exact h B0 S κ G' σ H s1 W tk D q
/-- a row by its index -/
def rowOf (xss : List (List Val)) : Val → Res (List Val)
  | .int i => match L2.atI xss i with
    | some xs => .ok xs
    | none => .stuck
  | _ => .stuck
def ixL (xs : List Val) : Val → Res Val
  | .int j => ixV xs j
  | _ => .stuck
theorem rowOf_ok {xss : List (List Val)} {v : Val} {xs : List Val} (h : rowOf xss v = .ok xs) : ∃ i, v = .int i ∧ L2.atI xss i = some xs := by
  unfold rowOf at h
  split at h
  · split at h
    · cases h; exact ⟨_, rfl, by assumption⟩
    · cases h
  · cases h
theorem rowOf_cases (xss : List (List Val)) (v : Val) : (∃ xs, rowOf xss v = .ok xs) ∨ rowOf xss v = .stuck := by
  unfold rowOf
  split
  · split
    · exact .inl ⟨_, rfl⟩
    · exact .inr rfl
  · exact .inr rfl
theorem ixL_ok {xs : List Val} {v x : Val} (h : ixL xs v = .ok x) : ∃ i, v = .int i ∧ L2.atI xs i = some x := by
  unfold ixL at h
  split at h
  · unfold ixV at h
    split at h
    · cases h; exact ⟨_, rfl, by assumption⟩
    · cases h
  · cases h
theorem ixL_cases (xs : List Val) (v : Val) : (∃ x, ixL xs v = .ok x) ∨ ixL xs v = .stuck := by
  unfold ixL
  split
  · unfold ixV
    split
    · exact .inl ⟨_, rfl⟩
    · exact .inr rfl
  · exact .inr rfl
theorem atI_cases {α : Type} {xs : List α} {i : Int} {x : α} (h : L2.atI xs i = some x) : ∃ j, L2.ixN xs.length i = some j ∧ xs[j]? = some x := by
  unfold L2.atI at h
  cases q : L2.ixN xs.length i with
  | none => rw [q] at h; cases h
  | some j => rw [q] at h; exact ⟨j, rfl, h⟩
theorem atI_of {α : Type} {xs : List α} {i : Int} {j : Nat} {x : α} (h : L2.ixN xs.length i = some j) (h2 : xs[j]? = some x) : L2.atI xs i = some x := by
  unfold L2.atI
  rw [h]; exact h2
/-- a pure piece comes ahead -/
theorem Post.ofStep {α γ β : Type} {K : PySem.W.Frag} {mg : Str → Option Value} {p : Bool} {R : List Addr → Hp → α → γ → Prop} {κ : List Addr} {G H : Hp} {S : Cells} {q : Res β} {f : β → m α} {Q : γ → Hp → Prop} {W : Value → Option Addr → Hp → Prop}
    (h : Post K mg p R κ G H S (Mon.run ((Mon.of q : m β) >>= f) S) Q W) (hc : (∃ x, q = .ok x) ∨ q = .stuck) : ∃ x, q = .ok x ∧ Post K mg p R κ G H S (Mon.run (f x) S) Q W := by
  rw [Mon.run_bind, Mon.run_of] at h
  rcases hc with ⟨x, e⟩ | e
  · subst e; exact ⟨x, rfl, h⟩
  · subst e; exact h.elim
/-- where an owned list of lists lies -/
theorem Sat.o2at {K : PySem.W.Frag} {mg : Str → Option Value} {b : Bool} {B0 : Bs} {κ : List Addr} {G H : Hp} {S : Cells} {σ : L2.St} (sat : Sat K mg b B0 E S κ G σ H) {i : Nat} {xss : List (List Val)} (he : E[i]? = some (.o2 xss)) :
    ∃ a as, σ[i]? = some (some (.ref a)) ∧ H a = some (.lst (as.map .ref)) ∧ Rows K mg κ G H xss as ∧ (a :: as).Nodup ∧ ∀ c ∈ a :: as, c ∉ κ := by
  obtain ⟨ov, L1, hσ, ⟨a, as, eL, ev, hH, hr⟩, nd, q, _⟩ := sat.swap he
  subst ev eL
  exact ⟨a, as, hσ, hH, hr, nd, fun c m => (q c m).2.2.1⟩
theorem row_at {K : PySem.W.Frag} {mg : Str → Option Value} {κ : List Addr} {G H : Hp} {xss : List (List Val)} {as : List Addr} (hr : Rows K mg κ G H xss as) {i : Int} {xs : List Val} (z : L2.atI xss i = some xs) :
    ∃ j ra vs, L2.ixN xss.length i = some j ∧ xss[j]? = some xs ∧ as[j]? = some ra ∧ L2.atI (as.map V.ref) i = some (.ref ra) ∧ H ra = some (.lst vs) ∧ RepL K mg κ G xs vs := by
  obtain ⟨j1, z1, z2⟩ := atI_cases z
  obtain ⟨gl, gg⟩ := hr.get
  obtain ⟨ra, rvs, g1, g2, g3⟩ := gg z2
  exact ⟨j1, ra, rvs, z1, z2, g1, atI_of (by rw [List.length_map, gl]; exact z1) (map_get_ref g1), g2, g3⟩
/-- x[i][j], x an owned list of lists -/
theorem ev_ix2 (c : Ctx X N sc k) (i : Nat) {x : Str} {ei ej : Expr} {p p1 p2 : Pos} {xss : List (List Val)} {ri rj : m Val} (hn : Nm N sc i x) (he : E[i]? = some (.o2 xss)) (hs1 : PlainIx ei) (hs2 : PlainIx ej) (hi : Ev X E ei ri) (hj : Ev X E ej rj) :
    Ev X E (.Subscript (.Subscript (.Name x p) ei p1) ej p2) (ri >>= fun a => Mon.of (rowOf xss a) >>= fun xs => rj >>= fun b => Mon.of (ixL xs b)) := by
  intro B0 S κ G σ H sat W tk Q q
  refine we_of (pe_ix ix_list (pe_ix ix_list (c.pv hn) pe_self hs1) pe_self hs2) ?_
  obtain ⟨a, as, hσ, hH, hr, nd, nk⟩ := sat.o2at he
  refine ⟨.ref a, hσ, ?_⟩
  refine hi B0 S κ G σ H sat W tk _ (bindW q fun vi iv κ1 G1 H1 S1 e1 r1 h1 => ?_)
  have sat1 := sat.ext e1.weak
  have hH1 := e1.e.keep a _ hH (nk a List.mem_cons_self)
  obtain ⟨a1, as1, hσ1, hH1', hr1, nd1, nk1⟩ := sat1.o2at he
  rw [hσ] at hσ1
  cases hσ1
  obtain ⟨xs, ex, h2⟩ := h1.ofStep (rowOf_cases _ _)
  obtain ⟨i1, rfl, z⟩ := rowOf_ok ex
  obtain ⟨j1, ra, rvs, z1, z2, g1, g2, g3, g4⟩ := row_at hr1 z
  rw [rep_int r1]
  refine ⟨a, _, i1, .ref ra, rfl, rfl, .inl (.inl hH1'), g2, ?_⟩
  refine hj B0 S1 κ1 G1 σ H1 sat1 W tk _ (bindW h2 fun vj jv κ2 G2 H2 S2 e2 r2 h3 => ?_)
  have k2 := e2.e.keep ra _ g3 (nk1 ra (List.mem_cons_of_mem _ (List.mem_of_getElem? g1)))
  have k3 := g4.mono e2.e.pre e2.e.le
  have h4 := h3.ofOk
  rcases ixL_cases xs vj with ⟨y, ey⟩ | ey
  · rw [ey] at h4
    obtain ⟨j2, rfl, w⟩ := ixL_ok ey
    rw [rep_int r2]
    obtain ⟨yv, w2, ry⟩ := atI_rep k3 w
    exact ⟨ra, rvs, j2, yv, rfl, rfl, .inl (.inl k2), w2, h4 κ2 G2 H2 yv (ExtB.refl e2.e.w) ry⟩
  · rw [ey] at h4; exact h4.elim
/-- x[i], x an owned list -/
theorem ev_ixO (c : Ctx X N sc k) (i : Nat) {x : Str} {ei : Expr} {p p1 : Pos} {xs : List Val} {ri : m Val} (hn : Nm N sc i x) (he : E[i]? = some (.o1 xs)) (hs1 : PlainIx ei) (hi : Ev X E ei ri) :
    Ev X E (.Subscript (.Name x p) ei p1) (ri >>= fun a => Mon.of (ixL xs a)) := by
  intro B0 S κ G σ H sat W tk Q q
  refine we_of (pe_ix ix_list (c.pv hn) pe_self hs1) ?_
  obtain ⟨a, vs, hσ, hH, rl, _⟩ := sat.setO1 (ys := xs) he
  refine ⟨.ref a, hσ, ?_⟩
  refine hi B0 S κ G σ H sat W tk _ (bindW q fun vi iv κ1 G1 H1 S1 e1 r1 h1 => ?_)
  obtain ⟨a1, vs1, hσ1, hH1, rl1, _⟩ := (sat.ext e1.weak).setO1 (ys := xs) he
  rw [hσ] at hσ1
  cases hσ1
  have h4 := h1.ofOk
  rcases ixL_cases xs vi with ⟨y, ey⟩ | ey
  · rw [ey] at h4
    obtain ⟨j2, rfl, w⟩ := ixL_ok ey
    rw [rep_int r1]
    obtain ⟨yv, w2, ry⟩ := atI_rep rl1 w
    exact ⟨a, vs1, j2, yv, rfl, rfl, .inl (.inl hH1), w2, h4 κ1 G1 H1 yv (ExtB.refl e1.e.w) ry⟩
  · rw [ey] at h4; exact h4.elim
/-- a row set anew -/
def setRow (xss : List (List Val)) (i j : Val) (v : Val) : Res (List (List Val)) :=
  match i, j with
  | .int i, .int j => match L2.ixN xss.length i with
    | some a => match xss[a]? with
      | some xs => match L2.ixN xs.length j with
        | some b => .ok (xss.set a (xs.set b v))
        | none => .stuck
      | none => .stuck
    | none => .stuck
  | _, _ => .stuck
theorem setRow_ok {xss yss : List (List Val)} {i j v : Val} (h : setRow xss i j v = .ok yss) : ∃ i' j' a xs b, i = .int i' ∧ j = .int j' ∧ L2.ixN xss.length i' = some a ∧ xss[a]? = some xs ∧ L2.ixN xs.length j' = some b ∧ yss = xss.set a (xs.set b v) := by
  unfold setRow at h
  split at h
  · split at h
    · split at h
      · split at h
        · cases h; exact ⟨_, _, _, _, _, rfl, rfl, by assumption, by assumption, by assumption, rfl⟩
        · cases h
      · cases h
    · cases h
  · cases h
theorem setRow_cases (xss : List (List Val)) (i j v : Val) : (∃ y, setRow xss i j v = .ok y) ∨ setRow xss i j v = .stuck := by
  unfold setRow
  split
  · split
    · split
      · split
        · exact .inl ⟨_, rfl⟩
        · exact .inr rfl
      · exact .inr rfl
    · exact .inr rfl
  · exact .inr rfl
theorem PostS.ofStep {K : PySem.W.Frag} {mg : Str → Option Value} {p : Bool} {B0 : Bs} {S : Cells} {β : Type} {q : Res β} {f : β → m ρ} {D : Ends} {W : WX}
    (h : PostS K mg p B0 (Mon.run ((Mon.of q : m β) >>= f) S) enc D W) (hc : (∃ x, q = .ok x) ∨ q = .stuck) : ∃ x, q = .ok x ∧ PostS K mg p B0 (Mon.run (f x) S) enc D W := by
  rw [Mon.run_bind, Mon.run_of] at h
  rcases hc with ⟨x, e⟩ | e
  · subst e; exact ⟨x, rfl, h⟩
  · subst e; exact h.elim
/-- the store at a row of an owned list of lists -/
theorem Sat.set2 {K : PySem.W.Frag} {mg : Str → Option Value} {b : Bool} {B0 : Bs} {κ : List Addr} {G H : Hp} {S : Cells} {σ : L2.St} (sat : Sat K mg b B0 E S κ G σ H) {i : Nat} {xss : List (List Val)} (he : E[i]? = some (.o2 xss)) {j : Nat} {xs : List Val} {a : Addr} {as : List Addr} (hσ : σ[i]? = some (some (.ref a))) (hH : H a = some (.lst (as.map .ref))) {ra : Addr} (hra : as[j]? = some ra) {ws : List V} (rw_ : RepL K mg κ G xs ws) :
    Sat K mg b B0 (E.set i (.o2 (xss.set j xs))) S κ G σ (L2.upd H ra (.lst ws)) := by
  obtain ⟨ov, L1, hσ1, ⟨a1, as1, eL, ev, hH1, hr⟩, nd, q, put, _⟩ := sat.swap he
  rw [hσ] at hσ1
  cases hσ1
  cases ev
  rw [hH] at hH1
  have eas : as1 = as := by
    have h : (as.map V.ref) = as1.map V.ref := by injection hH1 with h; injection h
    exact (List.map_inj_right (f := V.ref) fun _ _ z => V.ref.inj z).mp h.symm
  subst eas eL
  obtain ⟨n1, n2⟩ := List.nodup_cons.mp nd
  have mra := List.mem_of_getElem? hra
  have ne : a ≠ ra := fun z => n1 (z ▸ mra)
  refine put _ _ ⟨a, as1, rfl, rfl, by rw [upd_ne ne]; exact hH, hr.set n2 hra rw_⟩ (fun c n => upd_ne fun z => n (by rw [z]; exact List.mem_cons_of_mem _ mra)) fun c mc => ?_
  by_cases z : c = ra
  · subst z; rw [upd_same]; exact fun z => nomatch z
  · rw [upd_ne z]; exact (q c mc).2.2.2
/-- x[i][j] = e, x an owned list of lists -/
theorem sx_set2 (c : Ctx X N sc k) (n : Nat) {x : Str} {ei ej e : Expr} {p p1 ps pos : Pos} {xss : List (List Val)} {re ri rj : m Val} {f : List (List Val) → m ρ} (hn : Nm N sc n x) (hE : E[n]? = some (.o2 xss)) (hs1 : PlainIx ei) (he : Ev X E e re) (hi : Ev X E ei ri) (hj : Ev X E ej rj)
    (hr : ∀ yss, Sx X (E.set n (.o2 yss)) rest Ks (f yss) enc)
    (hs : swapsWithSole [.Subscript (.Subscript (.Name x p) ei p1) ej ps] e pos.line X.env = pure false) (hw : swappedStores [.Subscript (.Subscript (.Name x p) ei p1) ej ps] e X.env = pure none)
    (h1 : (assignEach [.Subscript (.Subscript (.Name x p) ei p1) ej ps] X.env).map (·.2) = [assign (.Subscript (.Subscript (.Name x p) ei p1) ej ps) X.env])
    (hg : ∀ v, assign (.Subscript (.Subscript (.Name x p) ei p1) ej ps) X.env v = (do
      let ov ← holding [v] (eval (.Subscript (.Name x p) ei p1) X.env)
      let iv ← holding [v, ov] (eval ej X.env)
      standAt ps
      holding [v, ov, iv] (setItem ov iv v)
      release [v, ov, iv] [])) :
    Sx X E (.Assign [.Subscript (.Subscript (.Name x p) ei p1) ej ps] e pos :: rest) Ks (re >>= fun v => ri >>= fun a => Mon.of (rowOf xss a) >>= fun _ => rj >>= fun b => Mon.of (setRow xss a b v) >>= f) enc := by
  intro B0 S κ G σ H sat W tk D q
  refine wss_of (pss_cons (ps_asg pe_self (pg_sub (pe_ix ix_list (c.pv hn) pe_self hs1) pe_self set_list hg) hs hw h1) (pss_self (e := rest))) ?_
  refine he B0 S κ G σ H sat.weak W tk _ (bindS sat q fun v vv κ1 G1 H1 S1 sat1 r1 h1 x1 => ?_)
  obtain ⟨a, as, hσ, hH, hr0, nd, nk⟩ := sat1.o2at hE
  refine ⟨.ref a, hσ, ?_⟩
  refine hi B0 S1 κ1 G1 σ H1 sat1.weak W tk _ (bindS sat1 h1 fun vi iv κ2 G2 H2 S2 sat2 r2 h2 x2 => ?_)
  obtain ⟨a2, as2, hσ2, hH2, hr2, nd2, nk2⟩ := sat2.o2at hE
  rw [hσ] at hσ2
  cases hσ2
  obtain ⟨xs, ex, h3⟩ := h2.ofStep (rowOf_cases _ _)
  obtain ⟨i1, rfl, z⟩ := rowOf_ok ex
  obtain ⟨j1, ra, rvs, z1, z2, g1, g2, g3, g4⟩ := row_at hr2 z
  rw [rep_int r2]
  refine ⟨a, _, i1, .ref ra, rfl, rfl, .inl (.inl hH2), g2, ?_⟩
  refine hj B0 S2 κ2 G2 σ H2 sat2.weak W tk _ (bindS sat2 h3 fun vj jv κ3 G3 H3 S3 sat3 r3 h4 x3 => ?_)
  have k2 := x3.e.keep ra _ g3 (nk2 ra (List.mem_cons_of_mem _ (List.mem_of_getElem? g1)))
  have kH := x3.e.keep a _ hH2 (nk2 a List.mem_cons_self)
  have k3 := g4.mono x3.e.pre x3.e.le
  obtain ⟨yss, ey, h5⟩ := h4.ofStep (setRow_cases _ _ _ _)
  obtain ⟨i', j', a', xs', b', y1, y2, y3, y4, y5, y6⟩ := setRow_ok ey
  cases y1
  subst y2 y6
  rw [z1] at y3
  cases y3
  rw [z2] at y4
  cases y4
  rw [rep_int r3]
  have rv := (r1.mono x2.e.pre x2.e.le).mono x3.e.pre x3.e.le
  exact ⟨ra, rvs, j', b', rfl, rfl, k2, by rw [k3.length]; exact y5, hr _ B0 S3 κ3 G3 σ _ (sat3.set2 hE hσ kH g1 (k3.set b' rv)) W tk D h5⟩
/-- x[i] = e, x an owned list -/
def setL (xs : List Val) (i v : Val) : Res (List Val) := match i with
  | .int i => match L2.ixN xs.length i with
    | some a => .ok (xs.set a v)
    | none => .stuck
  | _ => .stuck
theorem setL_ok {xs ys : List Val} {i v : Val} (h : setL xs i v = .ok ys) : ∃ i' a, i = .int i' ∧ L2.ixN xs.length i' = some a ∧ ys = xs.set a v := by
  unfold setL at h
  split at h
  · split at h
    · cases h; exact ⟨_, _, rfl, by assumption, rfl⟩
    · cases h
  · cases h
theorem setL_cases (xs : List Val) (i v : Val) : (∃ y, setL xs i v = .ok y) ∨ setL xs i v = .stuck := by
  unfold setL
  split
  · split
    · exact .inl ⟨_, rfl⟩
    · exact .inr rfl
  · exact .inr rfl
theorem sx_setO (c : Ctx X N sc k) (n : Nat) {x : Str} {ei e : Expr} {p ps pos : Pos} {xs : List Val} {re ri : m Val} {f : List Val → m ρ} (hn : Nm N sc n x) (hE : E[n]? = some (.o1 xs)) (he : Ev X E e re) (hi : Ev X E ei ri)
    (hr : ∀ ys, Sx X (E.set n (.o1 ys)) rest Ks (f ys) enc)
    (hs : swapsWithSole [.Subscript (.Name x p) ei ps] e pos.line X.env = pure false) (hw : swappedStores [.Subscript (.Name x p) ei ps] e X.env = pure none) (h1 : (assignEach [.Subscript (.Name x p) ei ps] X.env).map (·.2) = [assign (.Subscript (.Name x p) ei ps) X.env])
    (hg : ∀ v, assign (.Subscript (.Name x p) ei ps) X.env v = (do
      let ov ← holding [v] (eval (.Name x p) X.env)
      let iv ← holding [v, ov] (eval ei X.env)
      standAt ps
      holding [v, ov, iv] (setItem ov iv v)
      release [v, ov, iv] [])) :
    Sx X E (.Assign [.Subscript (.Name x p) ei ps] e pos :: rest) Ks (re >>= fun v => ri >>= fun a => Mon.of (setL xs a v) >>= f) enc := by
  intro B0 S κ G σ H sat W tk D q
  refine wss_of (pss_cons (ps_asg pe_self (pg_sub (c.pv hn) pe_self set_list hg) hs hw h1) (pss_self (e := rest))) ?_
  refine he B0 S κ G σ H sat.weak W tk _ (bindS sat q fun v vv κ1 G1 H1 S1 sat1 r1 h1 x1 => ?_)
  obtain ⟨a, vs, hσ, hH, rl, _⟩ := sat1.setO1 (ys := xs) hE
  refine ⟨.ref a, hσ, ?_⟩
  refine hi B0 S1 κ1 G1 σ H1 sat1.weak W tk _ (bindS sat1 h1 fun vi iv κ2 G2 H2 S2 sat2 r2 h2 x2 => ?_)
  obtain ⟨ys, ey, h3⟩ := h2.ofStep (setL_cases _ _ _)
  obtain ⟨i', b', y1, y2, y3⟩ := setL_ok ey
  subst y1 y3
  obtain ⟨a2, vs2, hσ2, hH2, rl2, put⟩ := sat2.setO1 (ys := xs.set b' v) hE
  rw [hσ] at hσ2
  cases hσ2
  rw [rep_int r2]
  exact ⟨a, vs2, i', b', rfl, rfl, hH2, by rw [rl2.length]; exact y2, hr _ B0 S2 κ2 G2 σ _ (put _ (rl2.set b' (r1.mono x2.e.pre x2.e.le))) W tk D h3⟩
end
end Tv

/-! a comprehension that makes a new list of new lists -/
namespace Tv
open PySem PySem.Spec PyProof.Rows L2

/-- a fresh list of fresh lists has come -/
def PostN2 (K : PySem.W.Frag) (mg : Str → Option Value) (p : Bool) (κ : List Addr) (G H : Hp) (S : Cells) (r : Res (List (List Val)) × Cells) (Q : VK) (W : Value → Option Addr → Hp → Prop) : Prop :=
  match r with
  | (.ok xss, S') => ∀ κ' G' H' a as, ExtB K mg p κ G H S κ' G' H' S' → H' a = some (.lst (as.map .ref)) → Rows K mg κ' G' H' xss as → (a :: as).Nodup → (∀ c ∈ a :: as, H c = none ∧ G' c = none ∧ c ∉ κ' ∧ H' c ≠ none) → Q (.ref a) H'
  | (.exn c fs, S') => ∀ κ' G' H' cls d, ExtB K mg p κ G H S κ' G' H' S' → ERep K mg κ' G' c fs cls d → W cls d H'
  | (.stuck, _) => False
section
variable {m : Type → Type} [Mon m]
def mapO (f : Val → m (List Val)) : List Val → m (List (List Val))
  | [] => Pure.pure []
  | x :: xs => f x >>= fun y => mapO f xs >>= fun ys => Pure.pure (y :: ys)
end
section
variable {K : PySem.W.Frag} {mg : Str → Option Value} {κ κ1 : List Addr} {G G1 H H1 : Hp} {S S1 : Cells} {b : Bool} {B0 : Bs} {E : Env} {σ : L2.St}
/-- an empty list of lists comes ahead of the slots -/
theorem Sat.push2 (h : Sat K mg b B0 E S κ G σ H) {p : Addr} (hp : H p = none) : Sat K mg b B0 (.o2 [] :: E) S κ G (some (.ref p) :: σ) (L2.upd H p (.lst [])) := by
  have s1 := h.push hp
  obtain ⟨x, L, ⟨ov, r, L1, Lr, e1, e2, h1, h2⟩, nd, q⟩ := s1
  obtain ⟨a, vs, z1, z2, z3, z4⟩ := h1
  unfold RepL at z4
  subst z4
  exact ⟨x, L, ⟨ov, r, L1, Lr, e1, e2, ⟨a, [], z1, z2, z3, rfl⟩, h2⟩, nd, q⟩
/-- what stands at the head -/
theorem Sat.head2 {xss : List (List Val)} {D : Addr} (h : Sat K mg b B0 (.o2 xss :: E) S κ G (some (.ref D) :: σ) H) :
    ∃ as, H D = some (.lst (as.map .ref)) ∧ Rows K mg κ G H xss as ∧ (D :: as).Nodup ∧ ∀ c ∈ D :: as, B0.H c = none ∧ G c = none ∧ c ∉ κ ∧ H c ≠ none := by
  obtain ⟨x, L, ⟨ov, r, L1, Lr, e1, e2, h1, h2⟩, nd, q⟩ := h
  cases e1
  obtain ⟨a, as, z1, z2, z3, z4⟩ := h1
  cases z2
  subst z1 e2
  exact ⟨as, z3, z4, (List.nodup_append.mp nd).1, fun c m => q c (List.mem_append_left _ m)⟩
/-- a fresh list comes behind the rows -/
theorem Rows.snoc : ∀ {xss : List (List Val)} {as : List Addr} {xs : List Val} {a : Addr} {vs : List V}, Rows K mg κ G H xss as → H a = some (.lst vs) → RepL K mg κ G xs vs → Rows K mg κ G H (xss ++ [xs]) (as ++ [a])
  | [], _, xs, a, vs, h, h1, h2 => by
    have h : _ = [] := h
    subst h
    exact ⟨a, [], vs, rfl, h1, h2, rfl⟩
  | ys :: xss, _, xs, a, vs, h, h1, h2 => by
    obtain ⟨a0, r0, vs0, e0, g1, g2, g3⟩ := h
    subst e0
    exact ⟨a0, r0 ++ [a], vs0, rfl, g1, g2, Rows.snoc g3 h1 h2⟩
theorem Sat.snoc2 {xss : List (List Val)} {D : Addr} (h : Sat K mg b B0 (.o2 xss :: E) S κ G (some (.ref D) :: σ) H) {p : Addr} {xs : List Val} {vs : List V} {as : List Addr} (hD : H D = some (.lst (as.map .ref)))
    (hp : H p = some (.lst vs)) (b0 : B0.H p = none) (g0 : G p = none) (k0 : p ∉ κ) (rl : RepL K mg κ G xs vs) (hn : ∀ L, SlotsOk K mg κ G H (.o2 xss :: E) (some (.ref D) :: σ) L → p ∉ L) :
    Sat K mg b B0 (.o2 (xss ++ [xs]) :: E) S κ G (some (.ref D) :: σ) (L2.upd H D (.lst ((as ++ [p]).map .ref))) := by
  obtain ⟨x, L, so, nd, q⟩ := h
  have np := hn L so
  obtain ⟨ov, r, L1, Lr, e1, e2, h1, h2⟩ := so
  cases e1
  obtain ⟨a, as', z1, z2, z3, z4⟩ := h1
  cases z2
  rw [hD] at z3
  have eas : as' = as := by
    have h : (as.map V.ref) = as'.map V.ref := by injection z3 with h; injection h
    exact (List.map_inj_right (f := V.ref) fun _ _ z => V.ref.inj z).mp h.symm
  subst eas z1 e2
  obtain ⟨n1, n2, n3⟩ := List.nodup_append.mp nd
  obtain ⟨m1, m2⟩ := List.nodup_cons.mp n1
  have qD := q D (by simp)
  have pD : p ≠ D := fun z => np (by rw [z]; simp)
  have pas : p ∉ as' := fun z => np (by simp [z])
  have pLr : p ∉ Lr := fun z => np (by simp [z])
  have rows' : Rows K mg κ G (L2.upd H D (.lst ((as' ++ [p]).map .ref))) xss as' := z4.mono (Pre.refl _) (Le.refl _) fun c mc => upd_ne fun z => m1 (z ▸ mc)
  refine ⟨x.ownM (L := [D]) (fun c mc => by rw [List.mem_singleton.mp mc]; exact ⟨qD.1, qD.2.1, qD.2.2.1⟩) (fun c nc => upd_ne fun z => nc (by rw [z]; exact List.mem_cons_self)), (D :: (as' ++ [p])) ++ Lr, ⟨some (.ref D), σ, D :: (as' ++ [p]), Lr, rfl, rfl, ⟨D, as' ++ [p], rfl, rfl, upd_same, rows'.snoc (by rw [upd_ne pD]; exact hp) rl⟩, h2.mono (Pre.refl _) (Le.refl _) fun c mc => upd_ne fun z => n3 D (by simp) c mc z.symm⟩, ?_, fun c mc => ?_⟩
  · refine List.nodup_append.mpr ⟨List.nodup_cons.mpr ⟨fun z => ?_, List.nodup_append.mpr ⟨m2, List.nodup_cons.mpr ⟨(by simp), List.nodup_nil⟩, fun c mc d md z => ?_⟩⟩, n2, fun c mc d md z => ?_⟩
    · rcases List.mem_append.mp z with z | z
      · exact m1 z
      · exact pD (List.mem_singleton.mp z).symm
    · rw [List.mem_singleton.mp md] at z; exact pas (z ▸ mc)
    · subst z
      rcases List.mem_cons.mp mc with z | mc
      · exact n3 D (by simp) c md z.symm
      · rcases List.mem_append.mp mc with mc | mc
        · exact n3 c (by simp [mc]) c md rfl
        · rw [List.mem_singleton.mp mc] at md; exact pLr md
  · by_cases e : c = D
    · subst e; exact ⟨qD.1, qD.2.1, qD.2.2.1, by rw [upd_same]; exact fun z => nomatch z⟩
    · rw [upd_ne e]
      rcases List.mem_append.mp mc with mc | mc
      · rcases List.mem_cons.mp mc with z | mc
        · exact absurd z e
        · rcases List.mem_append.mp mc with mc | mc
          · exact q c (by simp [mc])
          · rw [List.mem_singleton.mp mc]; exact ⟨b0, g0, k0, by rw [hp]; exact fun z => nomatch z⟩
      · exact q c (by simp [mc])
/-- a slot takes a fresh list of fresh lists -/
theorem Sat.takeO2 {a : Addr} {as : List Addr} {xss : List (List Val)} {i : Nat} (sat : Sat K mg b B0 E S κ G σ H) (x : ExtB K mg b κ G H S κ1 G1 H1 S1) (h1 : H1 a = some (.lst (as.map .ref))) (hr : Rows K mg κ1 G1 H1 xss as) (nd1 : (a :: as).Nodup) (hf : ∀ c ∈ a :: as, H c = none ∧ G1 c = none ∧ c ∉ κ1 ∧ H1 c ≠ none)
    (hi : i < E.length) : Sat K mg b B0 (E.set i (.o2 xss)) S1 κ1 G1 (σ.set i (some (.ref a))) H1 := by
  have b0 : ∀ c ∈ a :: as, B0.H c = none := fun c m => sat.1.x.fresh (hf c m).1
  have sat1 := sat.ext x
  obtain ⟨x0, L, so, nd, q⟩ := sat
  obtain ⟨x1, L', so1, nd', q'⟩ := sat1
  have e := x.e
  have so1 := so.mono (κ1 := κ1) (G1 := G1) (H1 := H1) e.pre e.le fun c m => by
    obtain ⟨_, _, n, t⟩ := q c m
    cases z : H c with
    | none => exact absurd z t
    | some o => exact e.keep c o z n
  have q1 : ∀ c ∈ L, B0.H c = none ∧ G1 c = none ∧ c ∉ κ1 ∧ H1 c ≠ none := fun c m => by
    obtain ⟨q1, q2, q3, q4⟩ := q c m
    refine ⟨q1, e.newG c q4 q2, fun z => q4 (e.newC c z q3), fun z => ?_⟩
    cases y : H c with
    | none => exact q4 y
    | some o => rw [e.keep c o y q3] at z; cases z
  have al : ∀ c ∈ a :: as, c ∉ L := fun c mc m => (q c m).2.2.2 (hf c mc).1
  obtain ⟨L2, s2, n2, m2⟩ := so1.set (i := i) (s := .o2 xss) (ov := some (.ref a)) (L1 := a :: as) hi ⟨a, as, rfl, rfl, h1, hr⟩
  refine ⟨x1, L2, s2, n2 al nd1 nd, fun c m => ?_⟩
  rcases m2 c m with m | m
  · exact q1 c m
  · exact ⟨b0 c m, (hf c m).2⟩
end
section
variable {X : Cx} {N : List Str} {sc : Scope} {k : Nat} {E : Env} {m : Type → Type} [Mon m]
/-- a comprehension that makes owned rows: as a value, and as the statement that stores it -/
def EvLc2 (X : Cx) (E : Env) (e : Expr) (r : m (List (List Val))) : Prop :=
  (∀ B0 S κ G σ H, Sat X.K X.mg false B0 E S κ G σ H → ∀ W : WX, Takes X W → ∀ Q : VK, PostN2 X.K X.mg (Mon.pu m) κ G H S (Mon.run r S) Q (fun c d H' => W c d σ H') → WE X e σ H Q) ∧
  ∀ (i : Nat) (y : Str) (py spos : Pos), X.N[i]? = some y → X.env.scope.names.lookup y = some .local → swapsWith e (some (.Name y py)) spos.line X.env = pure true →
    ∀ B0 S κ G σ H, Sat X.K X.mg false B0 E S κ G σ H → ∀ W : WX, Takes X W → ∀ D : Ends, PostN2 X.K X.mg (Mon.pu m) κ G H S (Mon.run r S) (fun v H' => D.nx (σ.set i (some v)) H') (fun c d H' => W c d σ H') → WS X (.Assign [.Name y py] e spos) D σ H
def EoB (X : Cx) (scope : Scope) (E : Env) (e : Expr) (r : m (List Val)) : Prop := ∀ s H C cl fp, Eo (bX X scope s H C cl fp) E e r
/-- the end's length -/
def vLst2 (xss : List (List Val)) : Res (List (List Val)) := if xss.length ≤ sizeLine then .ok xss else .stuck
theorem vLst2_len {K : PySem.W.Frag} {mg : Str → Option Value} {p : Bool} {κ : List Addr} {G H : Hp} {S S1 : Cells} {r : M (List (List Val))} {acc : List (List Val)} {Q : VK} {W : Value → Option Addr → Hp → Prop}
    (h : PostN2 K mg p κ G H S (M.bind r (fun ys => lift (vLst2 (acc ++ ys))) S1) Q W) (hx : ∀ c fs S', r S1 ≠ (.exn c fs, S')) : acc.length ≤ sizeLine := by
  unfold M.bind at h
  cases e : r S1 with
  | mk q S2 =>
    rw [e] at h
    cases q with
    | stuck => exact h.elim
    | exn c fs => exact absurd e (hx c fs S2)
    | ok ys =>
      unfold lift vLst2 at h
      dsimp only at h
      split at h
      · rename_i hl
        rw [List.length_append] at hl
        omega
      · exact h.elim
theorem noExn_ne {α : Type} (r : M α) (S : Cells) : ∀ c fs S', noExn r S ≠ (.exn c fs, S') := fun c fs S' h => by
  unfold noExn at h
  split at h
  · cases h
  · rename_i q hq
    exact hq c fs S' (by rw [← h])
/-- THE CORE -/
theorem lc_go2 (c : Ctx X N sc k) {scope : Scope} {own : List (Str × Nat)} {elt tg iter : Expr} {pos : Pos} {ri : m (List Val)} {f : Val → Env → Option Env} {step : Val → m (List Val)} {te : TE} (T : TgB X scope (own.map (·.2)) tg f) (ok : BlkOk N sc scope own) (hw : Wi X E tg iter ri)
    (he : ∀ s H C cl fp, PE (bX X scope s H C cl fp) elt te)
    (hs : ∀ x E', f x (unset E (own.map (·.2))) = some E' → ∀ (B0 : Bs) S κ G σ H, Sat X.K X.mg false B0 E' S κ G σ H → ∀ Q : VK, PostN X.K X.mg (Mon.pu m) κ G H S (Mon.run (step x) S) Q (fun _ _ _ => False) → te σ H Q)
    (hn : ∀ x, f x (unset E (own.map (·.2))) = none → ∀ S, ∃ S', Mon.run (step x) S = (.stuck, S'))
    (hfs : ∀ env x, foldedSetIterable iter env x = pure x := by intros; rfl) :
    EvLc2 X E (.ListComp elt [⟨tg, iter, [], 0⟩] scope pos) (ri >>= fun xs => Mon.nx (mapO step xs) >>= fun ys => Mon.of (vLst2 ys)) := by
  suffices core : ∀ B0 S κ G σ H, Sat X.K X.mg false B0 E S κ G σ H → ∀ W : WX, Takes X W → ∀ Q : VK, PostN2 X.K X.mg (Mon.pu m) κ G H S (Mon.run (m := m) (ri >>= fun xs => Mon.nx (mapO step xs) >>= fun ys => Mon.of (vLst2 ys)) S) Q (fun c d H' => W c d σ H') → tLc (WI X tg iter) T.g tYes te (own.map (·.2)) σ H Q from
    ⟨fun B0 S κ G σ H sat W tk Q q => we_of (pe_lc (own := own) c.calm (by rw [c.n]; exact c.nd) pi_self (by rw [c.n, c.sc]; exact ok) T.pg (fun _ _ _ _ _ => pts_nil) he (hfs _)) (core B0 S κ G σ H sat W tk Q q),
      fun i y py spos h1 h2 h3 B0 S κ G σ H sat W tk D q => ws_of (ps_setLc (own := own) c.calm (by rw [c.n]; exact c.nd) h1 h2 h3 pi_self (by rw [c.n, c.sc]; exact ok) T.pg (fun _ _ _ _ _ => pts_nil) he (hfs _)) (core B0 S κ G σ H sat W tk _ q)⟩
  intro B0 S κ G σ H sat W tk Q q
  have q0 : Post X.K X.mg (Mon.pu m) (ItR X.K X.mg) κ G H S (Mon.run ri S) (fun (J : It) H1 => ∃ items κ1 G1 S1, ExtB X.K X.mg (Mon.pu m) κ G H S κ1 G1 H1 S1 ∧ ItR X.K X.mg κ1 G1 items J ∧ PostN2 X.K X.mg (Mon.pu m) κ G H S (Mon.run (m := m) (Mon.nx (mapO step items) >>= fun ys => Mon.of (vLst2 ys)) S1) Q (fun c d H' => W c d σ H')) (fun c d H' => W c d σ H') := by
    rw [Mon.run_bind] at q
    have q : PostN2 X.K X.mg (Mon.pu m) κ G H S (M.bind (Mon.run ri) (fun xs => Mon.run (m := m) (Mon.nx (mapO step xs) >>= fun ys => Mon.of (vLst2 ys))) S) Q (fun c d H' => W c d σ H') := q
    unfold M.bind at q
    cases e : Mon.run ri S with
    | mk r S1 =>
      rw [e] at q
      cases r with
      | ok xs => exact fun κ1 G1 H1 J x r => ⟨xs, κ1, G1, S1, x, r, q⟩
      | exn c fs => exact q
      | stuck => exact q
  refine hw B0 S κ G σ H sat W tk _ (q0.mono fun J H1 ⟨items, κ1, G1, S1, e1, r1, h1⟩ => ?_)
  intro D hD
  have sat1 := sat.ext e1.weak
  obtain ⟨Bk, hBk⟩ : ∃ Bk : Bs, Bk = ⟨κ, G, H, S, κ1, G1⟩ := ⟨_, rfl⟩
  have x0 : ExtS X.K X.mg (Mon.pu m) Bk κ1 G1 H1 S1 := by subst hBk; exact ⟨e1, Pre.refl _, Le.refl _⟩
  have hBD : Bk.H D = none := by subst hBk; exact e1.fresh hD
  have satP := sat1.push2 hD
  obtain ⟨as0, _, _, _, fr0⟩ := satP.head2
  obtain ⟨_, gD, kD, _⟩ := fr0 D List.mem_cons_self
  have h2 : PostN2 X.K X.mg (Mon.pu m) κ G H S (M.bind (noExn (Mon.run (mapO step items))) (fun ys => lift (vLst2 ([] ++ ys))) S1) Q (fun c d H' => W c d σ H') := by
    rw [Mon.run_bind, Mon.run_nx] at h1
    have e : (fun ys => Mon.run (m := m) (Mon.of (vLst2 ys))) = fun ys => lift (vLst2 ys) := by funext ys; exact Mon.run_of _
    rw [e] at h1
    exact h1
  -- the slots, the state since the start, what is left
  let Inv2 : List (List Val) → Nat → Hp → Prop := fun acc i H' => ∃ S' κ' G', Sat X.K X.mg false B0 (.o2 acc :: E) S' κ' G' (some (.ref D) :: σ) H' ∧ ExtS X.K X.mg (Mon.pu m) Bk κ' G' H' S' ∧ (∀ as : List Addr, H' D = some (.lst (as.map .ref)) → ∀ c ∈ as, Bk.H c = none) ∧
      PostN2 X.K X.mg (Mon.pu m) κ G H S (M.bind (noExn (Mon.run (mapO step (items.drop i)))) (fun ys => lift (vLst2 (acc ++ ys))) S') Q (fun c d H' => W c d σ H')
  refine ⟨fun i n H' => i ≤ items.length ∧ n = items.length - i ∧ ∃ acc, Inv2 acc i H',
    ⟨_, Nat.zero_le _, rfl, [], S1, κ1, G1, satP, x0.own hBD gD kD, fun as e c m => ?_, h2⟩, ?_⟩
  · rw [upd_same] at e
    have : as = [] := by
      have e2 : ([] : List V) = as.map V.ref := by injection e with e; injection e
      exact List.map_eq_nil_iff.mp e2.symm
    subst this; nomatch m
  rintro i n H' ⟨hi, hnn, acc, S', κ', G', sa, xs', hb, hp⟩
  have pk : Pre κ1 κ' := by have := xs'.pf; subst hBk; exact this
  have lg : Le G1 G' := by have := xs'.lf; subst hBk; exact this
  by_cases hlt : i < items.length
  · right
    refine ⟨r1.go i H' (lg.trans sa.w.le) hlt, fun H' => ∃ acc, Inv2 acc (i + 1) H', fun H2 h2 => ⟨items.length - (i + 1), by omega, by omega, rfl, h2⟩, fun x Hy hy => ?_⟩
    have hit : items[i]? = some items[i] := List.getElem?_eq_getElem hlt
    rw [List.drop_eq_getElem_cons hlt] at hp
    have hp2 : PostN2 X.K X.mg (Mon.pu m) κ G H S (M.bind (noExn (Mon.run (step items[i]))) (fun o => M.bind (noExn (Mon.run (mapO step (items.drop (i + 1))))) (fun ys => lift (vLst2 ((acc ++ [o]) ++ ys)))) S') Q (fun c d H' => W c d σ H') := by
      have e : ∀ (r1 : M (List Val)) (r2 : M (List (List Val))), M.bind (noExn (M.bind r1 fun o => M.bind r2 fun ys => Pure.pure (o :: ys))) (fun ys => lift (vLst2 (acc ++ ys))) = M.bind (noExn r1) (fun o => M.bind (noExn r2) fun ys => lift (vLst2 ((acc ++ [o]) ++ ys))) := by
        intro r1 r2
        rw [noExn_bind, M.bind_assoc]
        congr 1
        funext o
        rw [noExn_bind, M.bind_assoc]
        congr 1
        funext ys
        rw [List.append_assoc]
        rfl
      rw [← e]
      unfold mapO at hp
      rw [Mon.run_bind] at hp
      have e2 : (fun a => Mon.run (m := m) (mapO step (items.drop (i + 1)) >>= fun ys => Pure.pure (a :: ys))) = fun (a : List Val) => M.bind (Mon.run (mapO step (items.drop (i + 1)))) fun ys => Pure.pure (a :: ys) := by
        funext a
        rw [Mon.run_bind]
        show M.bind _ _ = M.bind _ _
        congr 1
        funext ys
        exact Mon.run_pure _
      rw [e2] at hp
      exact hp
    have turn : ∀ κ2 G2 Hz v, Sat X.K X.mg false B0 (.o2 acc :: E) S' κ2 G2 (some (.ref D) :: σ) Hz → ExtS X.K X.mg (Mon.pu m) Bk κ2 G2 Hz S' → (∀ as : List Addr, Hz D = some (.lst (as.map .ref)) → ∀ c ∈ as, Bk.H c = none) → Rep X.K X.mg κ2 G2 items[i] v →
        T.g v (L2.wipe σ (own.map (·.2))) Hz fun σ2 H2 => L2.wipe σ2 (own.map (·.2)) = L2.wipe σ (own.map (·.2)) ∧ tYes σ2 H2 fun b H3 => if b = true then te σ2 H3 fun y H4 => ∃ acc', H4 D = some (.lst acc') ∧ acc'.length < sizeLine ∧ (∃ acc, Inv2 acc (i + 1) (L2.upd H4 D (.lst (acc' ++ [y])))) else (∃ acc, Inv2 acc (i + 1) H3) := by
      intro κ2 G2 Hz v sz xz bz rz
      have s1 := sz.tail.wipe (own.map (·.2))
      cases ef : f items[i] (unset E (own.map (·.2))) with
      | none =>
        obtain ⟨S3, es⟩ := hn _ ef S'
        unfold M.bind noExn at hp2
        rw [es] at hp2
        exact hp2.elim
      | some E' =>
        refine T.set false B0 _ S' κ2 G2 _ Hz _ v E' s1 rz ef _ fun σ2 s2 w2 => ⟨?_, ?_⟩
        · rw [w2]
          have ww : ∀ vs : List Nat, L2.wipe (L2.wipe σ vs) vs = L2.wipe σ vs := by
            intro vs
            apply List.ext_getElem?
            intro j
            by_cases hj : j ∈ vs
            · have k1 : ∀ τ : L2.St, j < τ.length → (L2.wipe τ vs)[j]? = some none := by
                intro τ hl
                cases e : (L2.wipe τ vs)[j]? with
                | none => rw [List.getElem?_eq_none_iff, L2.wipe_length] at e; omega
                | some o => cases o with
                  | none => rfl
                  | some y => exact absurd hj (L2.wipe_some e).2
              by_cases hl : j < σ.length
              · rw [k1 _ (by rw [L2.wipe_length]; exact hl), k1 _ hl]
              · rw [List.getElem?_eq_none (by rw [L2.wipe_length, L2.wipe_length]; omega), List.getElem?_eq_none (by rw [L2.wipe_length]; omega)]
            · rw [L2.wipe_out hj]
          exact ww _
        · show (if true = true then te σ2 Hz (fun y H4 => ∃ acc', H4 D = some (.lst acc') ∧ acc'.length < sizeLine ∧ (∃ acc, Inv2 acc (i + 1) (L2.upd H4 D (.lst (acc' ++ [y]))))) else (∃ acc, Inv2 acc (i + 1) Hz))
          rw [if_pos rfl]
          refine hs _ E' ef B0 S' κ2 G2 σ2 Hz s2 _ ?_
          have hp3 := hp2
          unfold M.bind noExn at hp3
          cases er : Mon.run (step items[i]) S' with
          | mk r S3 =>
            rw [er] at hp3
            cases r with
            | stuck => exact hp3.elim
            | exn c fs => exact hp3.elim
            | ok o =>
              intro κ3 G3 H3 p vs e3 p0 p1 pg pk3 ro
              have hp4 : PostN2 X.K X.mg (Mon.pu m) κ G H S (M.bind (noExn (Mon.run (mapO step (items.drop (i + 1))))) (fun ys => lift (vLst2 ((acc ++ [o]) ++ ys))) S3) Q (fun c d H' => W c d σ H') := hp3
              have s4 := sz.ext e3.weak
              have x4 := xz.trans e3
              obtain ⟨as4, hD4, hr4, nd4, fr4⟩ := s4.head2
              have ll := vLst2_len hp4 (noExn_ne _ _)
              have la := hr4.get.1
              have bp : B0.H p = none := sz.1.x.fresh p0
              have bkp : Bk.H p = none := xz.x.fresh p0
              obtain ⟨asz, hDz, _, _, frz⟩ := sz.head2
              have kD := e3.e.keep D _ hDz (frz D List.mem_cons_self).2.2.1
              have eas : asz = as4 := by
                rw [kD] at hD4
                have h : (asz.map V.ref) = as4.map V.ref := by injection hD4 with h; injection h
                exact (List.map_inj_right (f := V.ref) fun _ _ z => V.ref.inj z).mp h
              refine ⟨_, hD4, ?_, acc ++ [o], S3, κ3, G3, ?_, ?_, ?_, hp4⟩
              · rw [List.length_map, la]
                rw [List.length_append, List.length_singleton] at ll
                omega
              · have := s4.snoc2 (xs := o) (vs := vs) (p := p) hD4 p1 bp pg pk3 ro fun L so mp => ?_
                · rw [List.map_append] at this; exact this
                · obtain ⟨xz1, Lz, soz, ndz, qz⟩ := sz
                  have key := SlotsOk.mono (κ1 := κ3) (G1 := G3) (H1 := H3) e3.e.pre e3.e.le soz fun a m => by
                    obtain ⟨_, _, n, t⟩ := qz a m
                    cases z : Hz a with
                    | none => exact absurd z t
                    | some o => exact e3.e.keep a o z n
                  -- both tell the same owned addresses
                  have uq : ∀ {E : Env} {σ : L2.St} {L L' : List Addr}, SlotsOk X.K X.mg κ3 G3 H3 E σ L → SlotsOk X.K X.mg κ3 G3 H3 E σ L' → L = L' := by
                    intro E
                    induction E with
                    | nil => intro σ L L' a b; rw [a.2, b.2]
                    | cons s E ih =>
                      intro σ L L' a b
                      obtain ⟨ov, r, L1, L2, e1, e2, h1, h2⟩ := a
                      obtain ⟨ov', r', L1', L2', e1', e2', h1', h2'⟩ := b
                      rw [e1] at e1'
                      cases e1'
                      rw [e2, e2', ih h2 h2']
                      congr 1
                      cases s with
                      | un => exact h1.trans h1'.symm
                      | fz x => exact h1.1.trans h1'.1.symm
                      | o1 xs => obtain ⟨a, _, z1, z2, _⟩ := h1; obtain ⟨a', _, y1, y2, _⟩ := h1'; rw [z2] at y2; cases y2; rw [z1, y1]
                      | od xs => obtain ⟨a, _, z1, z2, _⟩ := h1; obtain ⟨a', _, y1, y2, _⟩ := h1'; rw [z2] at y2; cases y2; rw [z1, y1]
                      | oi a C fs => obtain ⟨_, _, _, z1, _⟩ := h1; obtain ⟨_, _, _, y1, _⟩ := h1'; rw [z1, y1]
                      | o2 xss =>
                        obtain ⟨a, as, z1, z2, z3, _⟩ := h1
                        obtain ⟨a', as', y1, y2, y3, _⟩ := h1'
                        rw [z2] at y2
                        cases y2
                        rw [z3] at y3
                        have h : (as.map V.ref) = as'.map V.ref := by injection y3 with h; injection h
                        have := (List.map_inj_right (f := V.ref) fun _ _ z => V.ref.inj z).mp h
                        rw [z1, y1, this]
                  have eL := uq so key
                  subst eL
                  exact (qz p mp).2.2.2 p0
              · have nD : D ≠ p := fun z => by rw [z] at hDz; rw [hDz] at p0; cases p0
                exact x4.own hBD (fr4 D List.mem_cons_self).2.1 (fr4 D List.mem_cons_self).2.2.1
              · intro as e cc mc
                rw [upd_same] at e
                have h : as4.map V.ref ++ [V.ref p] = as.map V.ref := by injection e with h; injection h
                have h2 : (as4 ++ [p]).map V.ref = as.map V.ref := by rw [List.map_append]; exact h
                have h3 := (List.map_inj_right (f := V.ref) fun _ _ z => V.ref.inj z).mp h2
                subst h3
                rcases List.mem_append.mp mc with mc | mc
                · exact bz asz hDz cc (by rw [eas]; exact mc)
                · rw [List.mem_singleton.mp mc]; exact bkp
    rcases r1.yld i H' x Hy (lg.trans sa.w.le) hy items[i] hit with ⟨z1, rx⟩ | ⟨T', vs, ys, hT, z1, z2, z3, ry⟩
    · subst z1
      exact turn κ' G' Hy x sa xs' hb (rx.mono pk lg)
    · subst z1 z2
      have ex2 : ExtB X.K X.mg (Mon.pu m) κ' G' H' S' κ' (L2.upd G' T' (.tup vs)) (L2.upd H' T' (.tup vs)) S' := ⟨(sa.w.upd hT).e, fun _ => (sa.w.upd hT).p rfl⟩
      obtain ⟨as5, hD5, _⟩ := sa.head2
      have nT : D ≠ T' := fun z => by rw [z] at hD5; rw [hD5] at hT; cases hT
      refine turn κ' _ _ _ (sa.ext ex2.weak) (xs'.trans ex2) (fun as e => hb as (by rw [upd_ne nT] at e; exact e)) ?_
      rw [z3]
      unfold Rep
      exact ⟨T', vs, rfl, .inl (.inl upd_same), (ry.mono pk lg).mono (Pre.refl _) ex2.e.le⟩
  · have e : i = items.length := by omega
    subst e
    left
    refine ⟨r1.stop H' (lg.trans sa.w.le), ?_⟩
    rw [List.drop_length] at hp
    unfold mapO at hp
    rw [Mon.run_pure] at hp
    have hp2 : PostN2 X.K X.mg (Mon.pu m) κ G H S (Res.ok acc >>= fun ys => Res.ok ys, S') Q (fun c d H' => W c d σ H') := by
      have hp3 : PostN2 X.K X.mg (Mon.pu m) κ G H S (vLst2 (acc ++ []), S') Q (fun c d H' => W c d σ H') := hp
      rw [List.append_nil] at hp3
      unfold vLst2 at hp3
      split at hp3
      · exact hp3
      · exact hp3.elim
    obtain ⟨as, hD4, hr4, nd4, fr4⟩ := sa.head2
    refine hp2 κ' G' H' D as (by have := xs'.x; subst hBk; exact this) hD4 hr4 nd4 fun cc mc => ?_
    obtain ⟨_, f2, f3, f4⟩ := fr4 cc mc
    refine ⟨?_, f2, f3, f4⟩
    rcases List.mem_cons.mp mc with z | z
    · subst z; subst hBk; exact hBD
    · have := hb as hD4 cc z; subst hBk; exact this
end
end Tv

/-! fresh lists by list(..), by *; a list of fresh lists stored; lengths of owned lists -/
namespace Tv
open PySem PySem.Spec PyProof.Rows L2

section
variable {X : Cx} {N : List Str} {sc : Scope} {k : Nat} {E : Env} {m : Type → Type} [Mon m] {ρ : Type} {enc : ρ → Out} {rest : List Stmt} {Ks : List (List Stmt)}
/-- an expression ahead of a fresh list -/
theorem bindWN {α γ : Type} {K : PySem.W.Frag} {mg : Str → Option Value} {p : Bool} {R : List Addr → Hp → α → γ → Prop} {κ : List Addr} {G H : Hp} {S : Cells} {x : m α} {f : α → m (List Val)} {Q2 : VK} {W : Value → Option Addr → Hp → Prop} {Q1 : γ → Hp → Prop}
    (h : PostN K mg p κ G H S (Mon.run (x >>= f) S) Q2 W)
    (q : ∀ a v κ1 G1 H1 S1, ExtB K mg p κ G H S κ1 G1 H1 S1 → R κ1 G1 a v → PostN K mg p κ G H S (Mon.run (f a) S1) Q2 W → Q1 v H1) :
    Post K mg p R κ G H S (Mon.run x S) Q1 W := by
  rw [Mon.run_bind] at h
  have h : PostN K mg p κ G H S (M.bind (Mon.run x) (fun a => Mon.run (f a)) S) Q2 W := h
  unfold M.bind at h
  cases e : Mon.run x S with
  | mk r S1 =>
    rw [e] at h
    cases r with
    | ok a => exact fun κ1 G1 H1 v ex r => q a v κ1 G1 H1 S1 ex r h
    | exn c fs => exact h
    | stuck => exact h
/-- the fresh list is laid -/
theorem PostN.new {K : PySem.W.Frag} {mg : Str → Option Value} {p : Bool} {κ κ1 : List Addr} {G G1 H H1 : Hp} {S S1 : Cells} {xs : List Val} {vs : List V} {Q : VK} {W : Value → Option Addr → Hp → Prop} (x : ExtB K mg p κ G H S κ1 G1 H1 S1) (r : RepL K mg κ1 G1 xs vs)
    (h : PostN K mg p κ G H S (.ok xs, S1) Q W) {a : Addr} (hp : H1 a = none) : Q (.ref a) (L2.upd H1 a (.lst vs)) := by
  obtain ⟨gp, kp⟩ := freshG x.e.w hp
  have wd := x.e.w.own (o := .lst vs) gp kp
  refine h κ1 G1 _ a vs ⟨⟨x.e.pre, x.e.le, fun c u hc n => ?_, x.e.newG, x.e.newC, wd⟩, fun z => ?_⟩ (x.fresh hp) upd_same gp kp r
  · have := x.e.keep c u hc n
    rw [upd_ne (show c ≠ a from fun e => by rw [e, hp] at this; cases this)]; exact this
  · obtain ⟨p1, p2, p3⟩ := x.p z
    exact ⟨p1, p2, fun c u hc => by
      have := p3 c u hc
      rw [upd_ne (show c ≠ a from fun e => by rw [e, hp] at this; cases this)]; exact this⟩
def seqL : Val → Res (List Val)
  | .lst xs => .ok xs
  | .tup xs => .ok xs
  | _ => .stuck
/-- list(e) -/
theorem eo_list (c : Ctx X N sc k) {e : Expr} {p pos : Pos} {r : m Val} (hg : glB sc "list" = true) (hm : X.mg "list" = none) (h : Ev X E e r) (hs : noStars [e] = true := by rfl) : Eo X E (.Call (.Name "list" p) [e] [] pos) (r >>= fun x => Mon.of (seqL x)) := by
  intro B0 S κ G σ H sat W tk Q q
  obtain ⟨g1, g2, g3⟩ := c.gl hg
  obtain ⟨s1, s2⟩ := Bool.and_eq_true_iff.mp hs
  refine we_of (pe_callTy call_self g1 hm boot_list pa_self (hn := g3) (hdb := g2) (he := star_of s1 [] X.env) (hpl := plain_of s2 pos X.env)) ?_
  refine wa_of (pa_cons pe_self pa_nil (star_of s1 [] X.env)) ?_
  refine h B0 S κ G σ H sat W tk _ (bindWN q fun x v κ1 G1 H1 S1 e1 r1 h1 => ?_)
  rw [Mon.run_of] at h1
  have h1 : PostN X.K X.mg (Mon.pu m) κ G H S (seqL x, S1) Q (fun c d H' => W c d σ H') := h1
  unfold seqL at h1
  split at h1
  · obtain ⟨a, us, e2, q, t⟩ := rep_lst r1
    subst e2
    exact wc_of call_list_of ⟨_, us, rfl, .inl (.inl (.inl (e1.e.w.le _ _ q))), fun l hl => h1.new e1 t hl⟩
  · obtain ⟨a, us, e2, q, t⟩ := rep_tup r1
    subst e2
    exact wc_of call_list_of ⟨_, us, rfl, .inr (e1.e.w.le.sqT q), fun l hl => h1.new e1 t hl⟩
  · exact h1.elim
def mulL (xs : List Val) : Val → Res (List Val)
  | .int k => if decide (-9223372036854775808 ≤ k) && decide (k < 9223372036854775808) && decide (xs.length * k.toNat ≤ sizeLine) then .ok (List.replicate k.toNat xs).flatten else .stuck
  | _ => .stuck
/-- [e, ..] * n -/
theorem eo_mul {es : List Expr} {e : Expr} {p pos : Pos} {rs : m (List Val)} {r : m Val} (h : Ea X E es rs) (h2 : Ev X E e r) : Eo X E (.BinOp (.List es p) .Mult e pos) (rs >>= fun xs => Mon.of (vLst xs) >>= fun _ => r >>= fun y => Mon.of (mulL xs y)) := by
  intro B0 S κ G σ H sat W tk Q q
  refine we_of (pe_op op_self (pe_lst pa_self) pe_self) ?_
  refine h B0 S κ G σ H sat W tk _ (bindWN q fun xs vs κ1 G1 H1 S1 e1 r1 h1 => ?_)
  have hl : xs.length ≤ sizeLine ∧ PostN X.K X.mg (Mon.pu m) κ G H S (Mon.run (r >>= fun y => Mon.of (mulL xs y)) S1) Q (fun c d H' => W c d σ H') := by
    rw [Mon.run_bind, Mon.run_of] at h1
    unfold vLst at h1
    split at h1
    · exact ⟨by assumption, h1⟩
    · exact h1.elim
  obtain ⟨hl, h2'⟩ := hl
  refine ⟨by rw [r1.length]; exact hl, fun a ha => ?_⟩
  obtain ⟨ga, ka⟩ := freshG e1.e.w ha
  have w2 := e1.e.w.upd (o := .lst vs) ha
  have x2 : ExtB X.K X.mg (Mon.pu m) κ1 G1 H1 S1 κ1 (L2.upd G1 a (.lst vs)) (L2.upd H1 a (.lst vs)) S1 := ⟨w2.e, fun _ => w2.p rfl⟩
  have sat2 := (sat.ext e1.weak).ext x2.weak
  have x02 := e1.trans x2
  refine h2 B0 S1 κ1 _ σ _ sat2 W tk _ ?_
  have rl2 := r1.mono (Pre.refl κ1) x2.e.le
  have key : Post X.K X.mg (Mon.pu m) (Rep X.K X.mg) κ1 (L2.upd G1 a (.lst vs)) (L2.upd H1 a (.lst vs)) S1 (Mon.run r S1) (fun v H2 => ∃ y κ2 G2 S2, ExtB X.K X.mg (Mon.pu m) κ1 (L2.upd G1 a (.lst vs)) (L2.upd H1 a (.lst vs)) S1 κ2 G2 H2 S2 ∧ Rep X.K X.mg κ2 G2 y v ∧ PostN X.K X.mg (Mon.pu m) κ G H S (mulL xs y, S2) Q (fun c d H' => W c d σ H')) (fun c d H' => W c d σ H') := by
    rw [Mon.run_bind] at h2'
    have h3 : PostN X.K X.mg (Mon.pu m) κ G H S (M.bind (Mon.run r) (fun y => Mon.run (m := m) (Mon.of (mulL xs y))) S1) Q (fun c d H' => W c d σ H') := h2'
    unfold M.bind at h3
    cases e : Mon.run r S1 with
    | mk q1 S2 =>
      rw [e] at h3
      cases q1 with
      | ok y => exact fun κ2 G2 H2 v ex rr => ⟨y, κ2, G2, S2, ex, rr, by
          have h4 : PostN X.K X.mg (Mon.pu m) κ G H S (Mon.run (m := m) (Mon.of (mulL xs y)) S2) Q (fun c d H' => W c d σ H') := h3
          rw [Mon.run_of] at h4
          exact h4⟩
      | exn c fs => exact fun κ2 G2 H2 cls d ex er => h3 κ2 G2 H2 cls d (x02.trans ex) er
      | stuck => exact h3
  refine key.mono fun v H2 ⟨y, κ2, G2, S2, ex, rr, h5⟩ => ?_
  unfold mulL at h5
  split at h5
  · split at h5
    · rename_i hh
      simp only [Bool.and_eq_true, decide_eq_true_eq] at hh
      have hH2 := ex.e.keep a _ upd_same ka
      rw [rep_int rr]
      have t := rl2.mono ex.e.pre ex.e.le
      exact wo_of op_rep ⟨a, _, vs, rfl, rfl, hH2, by omega, by omega, by rw [t.length]; exact hh.2, fun b hb => h5.new (x02.trans ex) (t.reps _) hb⟩
    · exact h5.elim
  · exact h5.elim
/-- [elt for x in iter], elt a fresh list -/
theorem ev_lcO (c : Ctx X N sc k) {scope : Scope} {own : List (Str × Nat)} {elt iter : Expr} {pos px : Pos} {x : Str} {i : Nat} {ri : m (List Val)} {r : Val → m (List Val)} (hb : blkC N sc scope own = true) (hl : Lb N sc scope i x) (hv : i ∈ own.map (·.2)) (hi : i < E.length) (hw : Wi X E (.Name x px) iter ri)
    (he : ∀ v, EoB X scope ((unset E (own.map (·.2))).set i (.fz v)) elt (r v)) (hfs : ∀ env x, foldedSetIterable iter env x = pure x := by intros; rfl) :
    EvLc2 X E (.ListComp elt [⟨.Name x px, iter, [], 0⟩] scope pos) (ri >>= fun xs => Mon.nx (mapO r xs) >>= fun ys => Mon.of (vLst2 ys)) := by
  refine lc_go2 (pos := pos) (step := r) c (tgName c i (pos := px) hl hv) (blkOk_by hb) hw (peS (e := elt)) (fun v E' e B0 S κ G σ H sat Q q => ?_) (fun v e => ?_) hfs
  · unfold fName at e
    rw [if_pos (by rw [unset_length]; exact hi)] at e
    cases e
    intro s Hh C cl fp
    exact he v s Hh C cl fp B0 S κ G σ H sat _ takesF Q q
  · unfold fName at e
    rw [if_pos (by rw [unset_length]; exact hi)] at e
    cases e
/-- what a fresh list of fresh lists ahead of a block is for -/
theorem bindN2 {B0 : Bs} {S : Cells} {κ : List Addr} {G H : Hp} {σ : L2.St} {x : m (List (List Val))} {f : List (List Val) → m ρ} {D : Ends} {W : WX} {Q : VK} (sat : Sat X.K X.mg (Mon.pu m) B0 E S κ G σ H) (h : PostS X.K X.mg (Mon.pu m) B0 (Mon.run (x >>= f) S) enc D W)
    (q : ∀ xss a as κ1 G1 H1 S1, ExtB X.K X.mg (Mon.pu m) κ G H S κ1 G1 H1 S1 → H1 a = some (.lst (as.map .ref)) → Rows X.K X.mg κ1 G1 H1 xss as → (a :: as).Nodup → (∀ c ∈ a :: as, H c = none ∧ G1 c = none ∧ c ∉ κ1 ∧ H1 c ≠ none) → PostS X.K X.mg (Mon.pu m) B0 (Mon.run (f xss) S1) enc D W → Q (.ref a) H1) :
    PostN2 X.K X.mg (Mon.pu m) κ G H S (Mon.run x S) Q (fun c d H' => W c d σ H') := by
  rw [Mon.run_bind] at h
  have h : PostS X.K X.mg (Mon.pu m) B0 (M.bind (Mon.run x) (fun a => Mon.run (f a)) S) enc D W := h
  unfold M.bind at h
  cases e : Mon.run x S with
  | mk r S' =>
    rw [e] at h
    cases r with
    | ok a => exact fun κ' G' H' p as x h1 hr nd fr => q a p as κ' G' H' S' x h1 hr nd fr h
    | exn c fs => exact fun κ' G' H' cls d x r' => h κ' G' σ H' cls d (sat.1.trans x) r'
    | stuck => exact h
/-- x = [fresh list for ..], x a local name on the same line -/
theorem sx_own2 (c : CtxF X N sc k) (i : Nat) {x : Str} {elt : Expr} {gs : List Comprehension} {scope : Scope} {epos p pos : Pos} {r : m (List (List Val))} {f : List (List Val) → m ρ} (hl : Lc N sc i x) (hi : i < E.length) (h : EvLc2 X E (.ListComp elt gs scope epos) r) (hr : ∀ v, Sx X (E.set i (.o2 v)) rest Ks (f v) enc)
    (hk : sc.kind = .function) (hp : (p.line == epos.line) = true) (ha : (scope.names.any fun (n, k) => n == x && (k == .local || k == .cell)) = false) : Sx X E (.Assign [.Name x p] (.ListComp elt gs scope epos) pos :: rest) Ks (r >>= f) enc := by
  intro B0 S κ G σ H sat W tk D q
  obtain ⟨h1, h2⟩ := hl.n
  refine wss_of (pss_cons (ps_self (e := .Assign [.Name x p] (.ListComp elt gs scope epos) pos)) (pss_self (e := rest))) ?_
  refine h.2 i x p pos (by rw [c.n]; exact h1) (by rw [c.sc]; exact h2) (sw_true (by rw [c.sc]; exact hk) (by rw [c.sc]; exact h2) hp ha) B0 S κ G σ H sat.weak W tk _ (bindN2 sat q fun v a as κ1 G1 H1 S1 ex e1 hrw nd fr hq => ?_)
  exact hr v B0 S1 κ1 G1 _ H1 (sat.takeO2 ex e1 hrw nd fr hi) W tk D hq
/-- .. x a cell, or on another line -/
theorem sx_own2C (c : CtxF X N sc k) (i : Nat) {x : Str} {elt : Expr} {gs : List Comprehension} {scope : Scope} {epos p pos : Pos} {r : m (List (List Val))} {f : List (List Val) → m ρ} (hl : Lk N sc i x) (hi : i < E.length) (h : EvLc2 X E (.ListComp elt gs scope epos) r) (hr : ∀ v, Sx X (E.set i (.o2 v)) rest Ks (f v) enc)
    (ha : (decide (sc.names.lookup x = some .local) && (p.line == epos.line) && !(scope.names.any fun (n, k) => n == x && (k == .local || k == .cell))) = false) : Sx X E (.Assign [.Name x p] (.ListComp elt gs scope epos) pos :: rest) Ks (r >>= f) enc := by
  intro B0 S κ G σ H sat W tk D q
  obtain ⟨h1, h2⟩ := hl.n
  have hs : swapsWith (.ListComp elt gs scope epos) (some (.Name x p)) pos.line X.env = pure false := by
    unfold swapsWith
    have e : (X.env.kindOf x == some .local) = decide (sc.names.lookup x = some .local) := by
      show (X.env.scope.names.lookup x == some .local) = _
      rw [c.sc]
      rw [Bool.eq_iff_iff, decide_eq_true_iff, beq_iff_eq]
    show (pure (X.env.blockKind == .function && X.env.kindOf x == some .local && p.line == epos.line && !(scope.names.any fun (n, k) => n == x && (k == .local || k == .cell))) : Sem Bool) = pure false
    rw [e]
    cases X.env.blockKind == .function
    · rfl
    · rw [Bool.true_and, ha]
  refine wss_of (pss_cons (ps_set (i := i) (by rw [c.n]; exact c.nd) (by rw [c.n]; exact h1) (by rw [c.sc]; exact h2) pe_self hs (.inl (c.fn _))) (pss_self (e := rest))) ?_
  refine h.1 B0 S κ G σ H sat.weak W tk _ (bindN2 sat q fun v a as κ1 G1 H1 S1 ex e1 hrw nd fr hq => ?_)
  exact hr v B0 S1 κ1 G1 _ H1 (sat.takeO2 ex e1 hrw nd fr hi) W tk D hq
/-- len(x), x owned -/
theorem ev_lenO (c : Ctx X N sc k) (i n : Nat) {x : Str} {p p2 pos : Pos} (hg : glB sc "len" = true) (hm : X.mg "len" = none) (hn : Nm N sc i x) (he : (∃ xs, E[i]? = some (.o1 xs) ∧ xs.length = n) ∨ ∃ xss, E[i]? = some (.o2 xss) ∧ xss.length = n) :
    Ev X E (.Call (.Name "len" p) [.Name x p2] [] pos) (Pure.pure (.int n) : m Val) := by
  intro B0 S κ G σ H sat W tk Q q
  obtain ⟨g1, g2, g3⟩ := c.gl hg
  refine we_of (pe_callB call_self g1 hm boot_len pa_self (hn := g3) (hdb := g2)) ?_
  refine wa_of (pa_cons (c.pv hn) pa_nil) ?_
  have w := sat.w
  have fin := q.pure w (repI _)
  rcases he with ⟨xs, e, l⟩ | ⟨xss, e, l⟩
  · obtain ⟨a, vs, hσ, hH, rl, _⟩ := sat.setO1 (ys := xs) e
    exact ⟨.ref a, hσ, wc_of call_len ⟨_, n, rfl, .inl ⟨vs, .inl (.inl hH), by rw [rl.length, l]⟩, fin⟩⟩
  · obtain ⟨a, as, hσ, hH, hr, _⟩ := sat.o2at e
    exact ⟨.ref a, hσ, wc_of call_len ⟨_, n, rfl, .inl ⟨_, .inl (.inl hH), by rw [List.length_map, hr.get.1, l]⟩, fin⟩⟩
end
end Tv

/-! instances: made, read -/
namespace Tv
open PySem PySem.Spec PyProof.Rows L2

theorem make_guards {A : Around} {C : Addr} {us : List Value} {kw : List (Str × Value)} (h : A.guards = some []) : (A.under (.builtin "type.__call__" ⟨.ref C :: us, kw⟩)).guards = some [] := by
  first
  | exact h
  | (simp [Around.under, Code.weight, Code.isCreation, Code.isGuard, Code.isCaller, Code.frames, Code.isFrame, guardIds]; exact h)
theorem in1_guards {A : Around} (h : A.guards = some []) : A.in1.guards = some [] := h
def putFv (f : Str) (v : Val) : List (Str × Val) → List (Str × Val)
  | [] => [(f, v)]
  | (g, x) :: r => if g = f then (g, v) :: r else (g, x) :: putFv f v r
section
variable {K : PySem.W.Frag} {mg : Str → Option Value} {κ κ1 : List Addr} {G G1 H H1 : Hp} {S S1 : Cells} {b : Bool} {B0 : Bs} {E : Env} {σ : L2.St}
theorem RepF.put {f : Str} {x : Val} {v : V} (h : Rep K mg κ G x v) : ∀ {fs : List (Str × Val)} {vs : List (Str × V)}, RepF K mg κ G fs vs → RepF K mg κ G (putFv f x fs) (putF f v vs)
  | [], _, r => by
    unfold RepF at r
    subst r
    show RepF K mg κ G [(f, x)] [(f, v)]
    unfold RepF
    exact ⟨v, [], rfl, h, by unfold RepF; rfl⟩
  | (g, y) :: fs, _, r => by
    unfold RepF at r
    obtain ⟨u, r', e, h1, h2⟩ := r
    subst e
    show RepF K mg κ G (if g = f then (g, x) :: fs else (g, y) :: putFv f x fs) (if g = f then (g, v) :: r' else (g, u) :: putF f v r')
    by_cases q : g = f
    · rw [if_pos q, if_pos q]
      unfold RepF
      exact ⟨v, r', rfl, h, h2⟩
    · rw [if_neg q, if_neg q]
      unfold RepF
      exact ⟨u, _, rfl, h1, RepF.put h h2⟩
theorem RepF.length : ∀ {fs : List (Str × Val)} {vs : List (Str × V)}, RepF K mg κ G fs vs → vs.length = fs.length
  | [], _, r => by unfold RepF at r; subst r; rfl
  | (g, y) :: fs, _, r => by
    unfold RepF at r
    obtain ⟨u, r', e, h1, h2⟩ := r
    subst e
    simp [RepF.length h2]
theorem RepF.look (f : Str) : ∀ {fs : List (Str × Val)} {vs : List (Str × V)}, RepF K mg κ G fs vs → (fs.lookup f = none ∧ vs.lookup f = none) ∨ ∃ x v, fs.lookup f = some x ∧ vs.lookup f = some v ∧ Rep K mg κ G x v
  | [], _, r => by unfold RepF at r; subst r; exact .inl ⟨rfl, rfl⟩
  | (g, y) :: fs, _, r => by
    unfold RepF at r
    obtain ⟨u, r', e, h1, h2⟩ := r
    subst e
    by_cases q : f = g
    · subst q
      exact .inr ⟨y, u, by simp [List.lookup], by simp [List.lookup], h1⟩
    · have hb : (f == g) = false := beq_eq_false_iff_ne.mpr q
      simp only [List.lookup, hb]
      exact RepF.look f h2
/-- the slots of an __init__: self, the other parameters -/
def startI (N : List Str) (a : Addr) (C : Str) (xs : List Val) : Env := .oi a C [] :: (xs.map .fz ++ List.replicate (N.length - (xs.length + 1)) .un)
/-- behind it: self has its fields -/
def encI (N : List Str) (a : Addr) (C : Str) (fs : List (Str × Val)) : Out := .nx (.oi a C fs :: List.replicate (N.length - 1) .un)
theorem upd_le {G : Hp} {a dx : Addr} {o1 o2 : HO} (ga : G a = none) (gd : G dx = none) {H : Hp} (l : Le G H) : Le G (L2.upd (L2.upd H dx o1) a o2) := fun c u h => by
  rw [upd_ne (fun e => by rw [e, ga] at h; cases h), upd_ne (fun e => by rw [e, gd] at h; cases h)]; exact l c u h
theorem Wd.made (w : Wd K mg κ G H S) {a dx : Addr} {o1 o2 : HO} (ha : H a = none) (hd : H dx = none) : ExtB K mg b κ G H S κ G (L2.upd (L2.upd H dx o1) a o2) S := by
  obtain ⟨ga, ka⟩ := freshG w ha
  obtain ⟨gd, kd⟩ := freshG w hd
  have at_ : ∀ c, c ≠ a → c ≠ dx → L2.upd (L2.upd H dx o1) a o2 c = H c := fun c h1 h2 => by rw [upd_ne h1, upd_ne h2]
  have keep : ∀ c u, H c = some u → L2.upd (L2.upd H dx o1) a o2 c = some u := fun c u h => by
    rw [at_ c (fun e => by rw [e, ha] at h; cases h) (fun e => by rw [e, hd] at h; cases h)]; exact h
  refine ⟨⟨Pre.refl _, Le.refl _, fun c u h _ => keep c u h, fun _ _ h => h, fun c h n => absurd h n, ⟨upd_le ga gd w.le, w.nd, w.ap, w.len, fun n c v h1 h2 => ?_⟩⟩, fun _ => ⟨rfl, rfl, fun c u h => keep c u h⟩⟩
  have mc := List.mem_of_getElem? h1
  exact (w.cel n c v h1 h2).at (at_ c (fun e => ka (e ▸ mc)) (fun e => kd (e ▸ mc)))
theorem sat_startI {N : List Str} {xs : List Val} {vs : List V} {a dx Ca : Addr} {C : Str} (w : Wd K mg κ G H S) (h : RepL K mg κ G xs vs) (hc : mg C = some (.ref Ca)) (ha : H a = none) (hd : H dx = none) (ne : dx ≠ a) :
    Sat K mg b ⟨κ, G, H, S, κ, G⟩ (startI N a C xs) S κ G (L2.start N (.ref a :: vs)) (L2.upd (L2.upd H dx (.own a)) a (.ins Ca dx [])) := by
  obtain ⟨ga, ka⟩ := freshG w ha
  have x : ExtB K mg b κ G H S κ G (L2.upd (L2.upd H dx (.own a)) a (.ins Ca dx [])) S := w.made ha hd
  refine ⟨⟨x, Pre.refl _, Le.refl _⟩, [a], ?_, List.pairwise_singleton _ _, fun c m => ?_⟩
  · unfold startI L2.start
    refine ⟨some (.ref a), _, [a], [], rfl, rfl, ⟨Ca, dx, [], rfl, rfl, hc, upd_same, by unfold RepF; rfl⟩, ?_⟩
    have e : N.length - (V.ref a :: vs).length = N.length - (xs.length + 1) := by rw [List.length_cons, h.length]
    rw [e]
    exact slots_start _ h
  · rw [List.mem_singleton.mp m]
    exact ⟨ha, ga, ka, by rw [upd_same]; exact fun z => nomatch z⟩
end
section
variable {m : Type → Type} [Mon m]
/-- what a class is worth when it is called: its __init__ -/
structure InG (P : Program) (w : World) (K : PySem.W.Frag) (mg : Str → Option Value) (base : Heap) (k : Nat) (Cn : Str) (Ca f : Addr) (fd : FuncData) (sn : Str) (ps : List Str) (g : List Val → m (List (Str × Val))) : Prop where
  len : ∀ xs, xs.length ≠ ps.length → g xs = Mon.of .stuck
  run : ∀ (A : Around) (outer : List PySem.Env) (s : Shared) (H0 : Hp) (args : Args) (us : List Value) (vs : List V) (Q : VK) (E : XK) (κ : List Addr) (G : Hp) (S : Cells) (xs : List Val) (a dx : Addr), Room k A → A.guards = some [] → H0 a = none → H0 dx = none → dx ≠ a → mg Cn = some (.ref Ca) →
    Env0 P w K mg base A outer s (L2.upd (L2.upd H0 dx (.own a)) a (.ins Ca dx [])) → BindsTo s fd args ((sn :: ps).zip (.ref a :: us)) → Vals vs us → vs.length = ps.length → Wd K mg κ G H0 S → RepL K mg κ G xs vs →
    Post K mg (Mon.pu m) (Rep K mg) κ G H0 S (Mon.run (g xs >>= fun fs => Pure.pure (.obj Cn fs)) S) Q (fun c d H' => E c d H') → codeAny (model P w) A (.call (.ref f) args) (CR (L2.CX P w) outer P w (L2.upd (L2.upd H0 dx (.own a)) a (.ins Ca dx [])) s (fun v H2 => v = .non ∧ Q (.ref a) H2) E) s
/-- AN __init__ BY ITS BODY -/
theorem inG_of {P : Program} {w : World} {K : PySem.W.Frag} {mg : Str → Option Value} {base : Heap} {k : Nat} {Cn : Str} {Ca f : Addr} {name qual : Str} {params : Arguments} {body : List Stmt} {scope : Scope} {dV kV doc pm cdv ct oc : Value} {an od : Option Addr}
    {osl : Array (Option Value)} {N ps : List Str} {sn : Str} {g : List Val → m (List (Str × Val))} (lk : K.lookup f = some ⟨oc, od, .func (PySem.W.fnOf name qual params body scope dV kV doc pm an cdv ct), osl⟩) (hcd : PySem.W.codeIn K cdv qual = true) (Sc : FnScope N (sn :: ps) scope) (hlen : ∀ xs, xs.length ≠ ps.length → g xs = Mon.of .stuck)
    (hb : ∀ (A : Around) (outer : List PySem.Env) (s : Shared) (H : Hp) (E : XK) (a : Addr) (xs : List Val), CtxF (cxOf (L2.CX P w) P w K mg base N qual scope f cdv A outer s H E) N scope k → xs.length = ps.length →
      Sx (cxOf (L2.CX P w) P w K mg base N qual scope f cdv A outer s H E) (startI N a Cn xs) body [] (g xs) (encI N a Cn)) :
    InG P w K mg base (k + 1) Cn Ca f (PySem.W.fnOf name qual params body scope dV kV doc pm an cdv ct) sn ps g := by
  refine ⟨hlen, fun A outer s H0 args us vs Q E κ G S xs a dx hr hgd ha hd ne hc e0 hbi r hl wd rl hp => ?_⟩
  have kx : K.In s.heap := e0.mod.kin.keeps fun b o e => (e0.bs b o e).1
  have nl : s.heap.NoLimit := e0.mod.nolimit.keeps fun b o e => (e0.bs b o e).1
  have nm : ∀ y ∈ (sn :: ps).zip (Value.ref a :: us), scope.names.lookup y.1 = some .local ∨ (scope.names.lookup y.1 = some .cell ∧ ((cellsFrom (s.heap.objs.size + 1) scope.names []).lookup y.1).isSome = true) := by
    rintro ⟨n, v⟩ hy
    have hm := (List.of_mem_zip hy).1
    cases Sc.par n hm with
    | inl q => exact .inl q
    | inr q => exact .inr ⟨q, PySem.W.cellsFrom_some _ _ _ (.inl q)⟩
  apply codeAny_call_function hr.depth (kx _ _ lk) rfl Sc.co Sc.gen rfl (PySem.W.codeRec_of kx hcd)
  apply hbi
  apply wpAny_newFunctionEnv_cells Sc.kind nm
  intro env he s1 x
  subst he
  refine ⟨nl.keeps x.toInCall.keep, codeAny_func ?_⟩
  have r2 : Vals (V.ref a :: vs) (Value.ref a :: us) := .cons rfl r
  have hl2 : (V.ref a :: vs).length = (sn :: ps).length := congrArg Nat.succ hl
  have I := inv_start (CX := L2.CX P w) (qual := qual) (f := f) (cd := cdv) (E := E) Sc hr.hd e0 hl2 r2 x
  have cx : CtxF (cxOf (L2.CX P w) P w K mg base N qual scope f cdv A outer s (L2.upd (L2.upd H0 dx (.own a)) a (.ins Ca dx [])) E) N scope k := ⟨⟨rfl, rfl, rfl, Sc.nd, hgd, hr.deeper _, passes_of rfl⟩, fun _ => rfl⟩
  have hx := hb A outer s (L2.upd (L2.upd H0 dx (.own a)) a (.ins Ca dx [])) E a xs cx (by rw [← rl.length]; exact hl)
  have wp := hx ⟨κ, G, H0, S, κ, G⟩ S κ G (L2.start N (.ref a :: vs)) _ (sat_startI wd rl hc ha hd ne) (fun cls d _ H => E cls d H) (takes_of (E := E) rfl rfl rfl rfl) { nx := fun _ H' => V.non = .non ∧ Q (.ref a) H', rt := fun _ _ => False } (by
    rw [Mon.run_bind] at hp
    have hp : Post K mg (Mon.pu m) (Rep K mg) κ G H0 S (M.bind (Mon.run (g xs)) (fun fs => Mon.run (m := m) (Pure.pure (.obj Cn fs))) S) Q (fun c d H' => E c d H') := hp
    unfold M.bind at hp
    revert hp
    cases Mon.run (g xs) S with
    | mk q S' =>
      cases q with
      | ok fs =>
        intro hp κ' G' σ' H' sa
        have hp : Post K mg (Mon.pu m) (Rep K mg) κ G H0 S (Mon.run (m := m) (Pure.pure (.obj Cn fs)) S') Q (fun c d H' => E c d H') := hp
        rw [Mon.run_pure] at hp
        obtain ⟨ov, L1, _, ⟨Ca', dx', vs', eL, ev, hc', hH, hr'⟩, _, _, _, fz⟩ := sa.swap (i := 0) rfl
        obtain ⟨G2, s2⟩ := fz (.obj Cn fs) (.ref a) ev fun G2 lg hc2 => by
          unfold Rep
          exact ⟨a, Ca', dx', vs', rfl, hc', (hc2 a (by rw [eL]; exact List.mem_cons_self)).trans hH, hr'.mono (Pre.refl _) lg⟩
        obtain ⟨x2, L2', so2, _⟩ := s2
        obtain ⟨ov2, L3, z1, ⟨_, v3, z2, z3⟩, _⟩ := so2.get (i := 0) rfl
        have ev3 : v3 = .ref a := by
          obtain ⟨xx, LL, so, _⟩ := sa
          obtain ⟨ov0, L0, y1, ⟨_, _, _, _, y2, _⟩, _⟩ := so.get (i := 0) rfl
          rw [z1] at y1
          cases y1
          rw [y2] at z2
          cases z2
          rfl
        subst ev3
        exact ⟨rfl, hp κ' G2 H' _ x2.x z3⟩
      | exn c fs => exact fun hp κ' G' σ' H' cls d e r => hp κ' G' H' cls d e.x r
      | stuck => exact fun z => z)
  refine wpAny_mono (wp.run [] s1 I) (fun fl s' hs => ?_) fun e s' hs => hs
  cases fl with
  | ret u => obtain ⟨v, σ', H', J, rv, q⟩ := hs; exact q.elim
  | next => obtain ⟨σ', H', J, q⟩ := hs; exact ⟨.non, H', J.os, J.bare, J.base, J.hok, rfl, q⟩
  | brk => obtain ⟨_, _, _, q⟩ := hs; exact q.elim
  | cont => obtain ⟨_, _, _, q⟩ := hs; exact q.elim
theorem InG.mono {P : Program} {w : World} {K : PySem.W.Frag} {mg : Str → Option Value} {base : Heap} {j k : Nat} {Cn : Str} {Ca f : Addr} {fd : FuncData} {sn : Str} {ps : List Str} {g : List Val → m (List (Str × Val))} (F : InG P w K mg base j Cn Ca f fd sn ps g) (h : j ≤ k) : InG P w K mg base k Cn Ca f fd sn ps g :=
  ⟨F.len, fun A outer s H0 args us vs Q E κ G S xs a dx hr => F.run A outer s H0 args us vs Q E κ G S xs a dx (hr.mono h)⟩
end
end Tv

/-! instances: rules -/
namespace Tv
open PySem PySem.Spec PyProof.Rows L2

def fldF (f : Str) (fs : List (Str × Val)) : Res Val := match fs.lookup f with
  | some x => .ok x
  | none => .stuck
/-- an attribute of an instance of one of some classes -/
def oFld (cs : List Str) (f : Str) : Val → Res Val
  | .obj C fs => if C ∈ cs then fldF f fs else .stuck
  | _ => .stuck
theorem oFld_ok {cs : List Str} {f : Str} {x y : Val} (h : oFld cs f x = .ok y) : ∃ C fs, x = .obj C fs ∧ C ∈ cs ∧ fs.lookup f = some y := by
  unfold oFld at h
  split at h
  · split at h
    · unfold fldF at h
      split at h
      · cases h; exact ⟨_, _, rfl, by assumption, by assumption⟩
      · cases h
    · cases h
  · cases h
theorem oFld_cases (cs : List Str) (f : Str) (x : Val) : (∃ y, oFld cs f x = .ok y) ∨ oFld cs f x = .stuck := by
  unfold oFld
  split
  · split
    · unfold fldF
      split
      · exact .inl ⟨_, rfl⟩
      · exact .inr rfl
    · exact .inr rfl
  · exact .inr rfl
/-- an instance of the class, without an attribute of the name -/
def isC (Cn m : Str) : Val → Res Unit
  | .obj C fs => if C = Cn ∧ (fs.lookup m).isSome = false then .ok () else .stuck
  | _ => .stuck
theorem isC_ok {Cn m : Str} {x : Val} {u : Unit} (h : isC Cn m x = .ok u) : ∃ fs, x = .obj Cn fs ∧ (fs.lookup m).isSome = false := by
  unfold isC at h
  split at h
  · split at h
    · rename_i hh
      obtain ⟨h1, h2⟩ := hh
      subst h1
      exact ⟨_, rfl, h2⟩
    · cases h
  · cases h
theorem isC_cases (Cn m : Str) (x : Val) : (∃ y, isC Cn m x = .ok y) ∨ isC Cn m x = .stuck := by
  unfold isC
  split
  · split
    · exact .inl ⟨_, rfl⟩
    · exact .inr rfl
  · exact .inr rfl
section
variable {X : Cx} {N : List Str} {sc : Scope} {k j : Nat} {E : Env} {m : Type → Type} [Mon m] {ρ : Type} {enc : ρ → Out} {rest : List Stmt} {Ks : List (List Stmt)}
theorem rep_obj {K : PySem.W.Frag} {mg : Str → Option Value} {κ : List Addr} {G : Hp} {C : Str} {fs : List (Str × Val)} {v : V} (h : Rep K mg κ G (.obj C fs) v) : ∃ a Ca dx vs, v = .ref a ∧ mg C = some (.ref Ca) ∧ G a = some (.ins Ca dx vs) ∧ RepF K mg κ G fs vs := by unfold Rep at h; exact h
theorem mg_inj {mg : Str → Option Value} {C : Str} {a b : Addr} (h1 : mg C = some (.ref a)) (h2 : mg C = some (.ref b)) : a = b := by
  rw [h1] at h2; cases h2; rfl
/-- the instance's attribute -/
theorem ev_fld {cs : List Str} {f : Str} {e : Expr} {pos : Pos} {r : m Val} (hc : ∀ C ∈ cs, ∀ Ca, X.mg C = some (.ref Ca) → Cls X.K Ca ∧ NoAttr X.K Ca f) (h : Ev X E e r) (hb : attributeBase e f X.env (eval e X.env) = eval e X.env := by rfl) :
    Ev X E (.Attribute e f pos) (r >>= fun x => Mon.of (oFld cs f x)) := by
  intro B0 S κ G σ H sat W tk Q q
  refine we_of (pe_fld pe_self hb) ?_
  refine h B0 S κ G σ H sat W tk _ (bindW q fun x v κ1 G1 H1 S1 e1 r1 h1 => ?_)
  have h2 := h1.ofOk
  rcases oFld_cases cs f x with ⟨y, ey⟩ | ey
  · rw [ey] at h2
    obtain ⟨C, fs, rfl, hC, hl⟩ := oFld_ok ey
    obtain ⟨a, Ca, dx, vs, ev, hm, hG, rf⟩ := rep_obj r1
    obtain ⟨k1, k2⟩ := hc C hC Ca hm
    rcases rf.look f with ⟨l1, _⟩ | ⟨y', u, l1, l2, ry⟩
    · rw [hl] at l1; cases l1
    · rw [hl] at l1
      cases l1
      exact ⟨a, Ca, dx, vs, u, ev, e1.e.w.le _ _ hG, k1, k2, l2, h2 κ1 G1 H1 u (ExtB.refl e1.e.w) ry⟩
  · rw [ey] at h2; exact h2.elim
/-- self.f within __init__ -/
theorem ev_fldI (c : Ctx X N sc k) (i : Nat) {x f Cn : Str} {p pos : Pos} {a : Addr} {fs : List (Str × Val)} (hn : Nm N sc i x) (hE : E[i]? = some (.oi a Cn fs)) (hc : ∀ Ca, X.mg Cn = some (.ref Ca) → Cls X.K Ca ∧ NoAttr X.K Ca f)
    (hb : attributeBase (.Name x p) f X.env (eval (.Name x p) X.env) = eval (.Name x p) X.env := by rfl) : Ev X E (.Attribute (.Name x p) f pos) (Mon.of (fldF f fs) : m Val) := by
  intro B0 S κ G σ H sat W tk Q q
  refine we_of (pe_fld (c.pv hn) hb) ?_
  obtain ⟨ov, L1, hσ, ⟨Ca, dx, vs, _, ev, hm, hH, rf⟩, _⟩ := sat.swap hE
  subst ev
  have h2 := q.ofOk
  obtain ⟨k1, k2⟩ := hc Ca hm
  unfold fldF at h2
  refine ⟨.ref a, hσ, ?_⟩
  rcases rf.look f with ⟨l1, _⟩ | ⟨y', u, l1, l2, ry⟩
  · rw [l1] at h2; exact h2.elim
  · rw [l1] at h2
    exact ⟨a, Ca, dx, vs, u, rfl, hH, k1, k2, l2, h2 κ G H u (ExtB.refl sat.w) ry⟩
theorem Sat.putF {K : PySem.W.Frag} {mg : Str → Option Value} {b : Bool} {B0 : Bs} {κ : List Addr} {G H : Hp} {S : Cells} {σ : L2.St} (sat : Sat K mg b B0 E S κ G σ H) {i : Nat} {a : Addr} {Cn f : Str} {fs : List (Str × Val)} (hE : E[i]? = some (.oi a Cn fs)) :
    ∃ Ca dx vs, σ[i]? = some (some (.ref a)) ∧ mg Cn = some (.ref Ca) ∧ H a = some (.ins Ca dx vs) ∧ vs.length = fs.length ∧ ∀ x v, Rep K mg κ G x v → Sat K mg b B0 (E.set i (.oi a Cn (putFv f x fs))) S κ G σ (L2.upd H a (.ins Ca dx (L2.putF f v vs))) := by
  obtain ⟨ov, L1, hσ, ⟨Ca, dx, vs, eL, ev, hm, hH, rf⟩, nd, q, put, _⟩ := sat.swap hE
  subst ev eL
  refine ⟨Ca, dx, vs, hσ, hm, hH, rf.length, fun x v rx => ?_⟩
  refine put _ _ ⟨Ca, dx, _, rfl, rfl, hm, upd_same, rf.put rx⟩ (fun c n => upd_ne fun z => n (by rw [z]; exact List.mem_cons_self)) fun c mc => ?_
  rw [List.mem_singleton.mp mc, upd_same]
  exact fun z => nomatch z
/-- self.f = e within __init__ -/
theorem sx_fldI (c : CtxF X N sc k) (i : Nat) {x f Cn : Str} {e : Expr} {p pos' pos : Pos} {a : Addr} {fs : List (Str × Val)} {r : m Val} {g : Val → m ρ} (hn : Nm N sc i x) (hE : E[i]? = some (.oi a Cn fs)) (hc : ∀ Ca, X.mg Cn = some (.ref Ca) → Cls X.K Ca ∧ NoAttr X.K Ca f) (hl : fs.length < 1000) (he : Ev X E e r)
    (hr : ∀ v, Sx X (E.set i (.oi a Cn (putFv f v fs))) rest Ks (g v) enc) (hs : swapsWith e (some (.Attribute (.Name x p) f pos')) pos.line X.env = pure false := by rfl) :
    Sx X E (.Assign [.Attribute (.Name x p) f pos'] e pos :: rest) Ks (r >>= g) enc := by
  intro B0 S κ G σ H sat W tk D q
  refine wss_of (pss_cons (ps_fld (c.toCtx.pv hn) pe_self hs) (pss_self (e := rest))) ?_
  refine he B0 S κ G σ H sat.weak W tk _ (bindS sat q fun v vv κ1 G1 H1 S1 sat1 r1 h1 x1 => ?_)
  obtain ⟨Ca, dx, vs, hσ, hm, hH, lv, put⟩ := sat1.putF (f := f) hE
  obtain ⟨k1, k2⟩ := hc Ca hm
  exact ⟨.ref a, hσ, a, Ca, dx, vs, rfl, hH, k1, k2, by rw [lv]; exact hl, hr v B0 S1 κ1 G1 σ _ (put v vv r1) W tk D h1⟩
/-! ### C(e, ..) -/
section
variable {Cn : Str} {Ca f : Addr} {fd : FuncData} {sn : Str} {ps ks : List Str} {g : List Val → m (List (Str × Val))}
theorem runMk {pins : List (Addr × Obj)} {σ : L2.St} {H : Hp} {s : Shared} {Q : VK} {us us' : List Value} {vs' : List V} {kw : List (Str × Value)} {κ : List Addr} {G : Hp} {S : Cells} {xs : List Val} {W : WX} (c : Ctx X N sc k) (M : Mk X.K Ca f) (F : InG X.prog X.w X.K X.mg X.base j Cn Ca f fd sn ps g) (hj : j + 1 ≤ k) (hm : X.mg Cn = some (.ref Ca)) (tk : Takes X W)
    (hb : ∀ (s : Shared) (u : Value), X.K.In s.heap → BindsTo s fd ⟨u :: us, kw⟩ ((sn :: ps).zip (u :: us'))) (r : Vals vs' us')
    (I : L2.Inv X pins σ H s) (wd : Wd X.K X.mg κ G H S) (rl : RepL X.K X.mg κ G xs vs') (h : Post X.K X.mg (Mon.pu m) (Rep X.K X.mg) κ G H S (Mon.run (g xs >>= fun fs => Pure.pure (.obj Cn fs)) S) Q (fun c d H' => W c d σ H')) :
    wpAny (model X.prog X.w) X.A (call (.ref Ca) us kw) (EP X pins σ Q) X.xe s := by
  have hl : vs'.length = ps.length := by
    rw [rl.length]
    by_cases e : xs.length = ps.length
    · exact e
    · rw [F.len xs e, Mon.run_bind, Mon.run_of] at h
      exact h.elim
  have ha := I.hok.fresh (Nat.le_succ s.heap.objs.size)
  have hd := I.hok.fresh (Nat.le_refl s.heap.objs.size)
  have ne : s.heap.objs.size ≠ s.heap.objs.size + 1 := Nat.ne_of_lt (Nat.lt_succ_self _)
  have I2 := Inv.made (C := Ca) I
  refine wpAny_call (make_map (f := f) I.kIn M.makes M.init (beq_iff_eq.mp M.fn) (codeAny_mono (F.run _ X.stack _ H ⟨Value.ref (s.heap.objs.size + 1) :: us, kw⟩ us' vs' Q (fun c d H' => W c d σ H') κ G S xs _ _ ((c.room.mono hj).make Ca us kw) (make_guards c.gd) ha hd ne hm
    (I2.env0.make Ca us kw) (hb _ _ I2.kIn) r hl wd rl h) fun fl s' q => ?_))
  cases fl with
  | error e => exact tk e s' (XE.of_call I2 (fun _ _ _ z => z) q)
  | ok z =>
    cases z with
    | ret u =>
      obtain ⟨v, H', I3, rv, ev, q3⟩ := I2.after q
      subst ev
      exact ⟨rv, ⟨V.ref (s.heap.objs.size + 1), H', I3, rfl, q3⟩⟩
    | next => exact q.elim
    | brk => exact q.elim
    | cont => exact q.elim
/-- how the parameters behind self are bound -/
def KwI (K : PySem.W.Frag) (fd : FuncData) (sn : Str) (ps ks : List Str) (p : Nat) (is : List Nat) : Prop :=
  ∀ (s : Shared) (u : Value) (us ws : List Value), K.In s.heap → us.length = p → ws.length = ks.length → BindsTo s fd ⟨u :: us, ks.zip ws⟩ ((sn :: ps).zip (u :: pickL .none is (us ++ ws)))
theorem pickL_succ {α : Type} (d u : α) (us : List α) : ∀ is : List Nat, pickL d (is.map (· + 1)) (u :: us) = pickL d is us
  | [] => rfl
  | i :: is => by
    show List.getD (u :: us) (i + 1) d :: pickL d (is.map (· + 1)) (u :: us) = us.getD i d :: pickL d is us
    rw [pickL_succ d u us is]
    rfl
theorem KwB.toI {K : PySem.W.Frag} {p : Nat} {is : List Nat} (h : KwB K fd (sn :: ps) ks (p + 1) (0 :: is.map (· + 1))) : KwI K fd sn ps ks p is := fun s u us ws X h1 h2 => by
  have := h s (u :: us) ws X (congrArg Nat.succ h1) h2
  rw [List.cons_append] at this
  have e : pickL Value.none (0 :: is.map (· + 1)) (u :: (us ++ ws)) = u :: pickL Value.none is (us ++ ws) := by
    show u :: pickL Value.none (is.map (· + 1)) (u :: (us ++ ws)) = _
    rw [pickL_succ]
  rw [e] at this
  exact this
/-- C(e, ..) -/
theorem ev_make (c : Ctx X N sc k) {p pos : Pos} {e : Expr} {es : List Expr} {rs : m (List Val)} (M : Mk X.K Ca f) (F : InG X.prog X.w X.K X.mg X.base j Cn Ca f fd sn ps g) (hj : j + 1 ≤ k) (hb : Binds X.K fd (sn :: ps) []) (hg : glB sc Cn = true) (hm : X.mg Cn = some (.ref Ca))
    (ha : Ea X E (e :: es) rs) (hs : noStars (e :: es) = true := by rfl) : Ev X E (.Call (.Name Cn p) (e :: es) [] pos) (rs >>= fun xs => g xs >>= fun fs => Pure.pure (.obj Cn fs)) := by
  intro B0 S κ G σ H sat W tk Q q
  obtain ⟨g1, g2, _⟩ := c.gl hg
  obtain ⟨s1, s2⟩ := Bool.and_eq_true_iff.mp hs
  refine ⟨fun pins s I => ?_⟩
  refine wpAny_Call_Name_kw (ld_glob I g1 hm ?_ g2)
  refine PySem.W.callWith_K (h₀ := X.base) I.ok.mod.kin M.kp (thn ((ha B0 S κ G σ H sat W tk _ (bindP q)).run pos pins s I) fun us s1 ⟨vs, H1, I1, r, xs, κ1, G1, S1, w1, r1, h1⟩ => ⟨I1.kIn, ?_⟩) (star_of s1 es X.env) (plain_of s2 pos X.env)
  have hl : us.length = ps.length := by
    rw [← r.length, r1.length]
    by_cases e : xs.length = ps.length
    · exact e
    · rw [F.len xs e, Mon.run_bind, Mon.run_of] at h1
      exact h1.elim
  refine runMk (us' := us) c M F hj hm tk (fun s u X => ?_) r I1 w1.e.w r1 h1
  have := hb s (u :: us) X (by rw [List.append_nil]; exact congrArg Nat.succ hl)
  rw [List.append_nil] at this
  exact this
/-- C() -/
theorem ev_make0 (c : Ctx X N sc k) {p pos : Pos} (M : Mk X.K Ca f) (F : InG X.prog X.w X.K X.mg X.base j Cn Ca f fd sn [] g) (hj : j + 1 ≤ k) (hb : Binds X.K fd [sn] []) (hg : glB sc Cn = true) (hm : X.mg Cn = some (.ref Ca)) :
    Ev X E (.Call (.Name Cn p) [] [] pos) (g [] >>= fun fs => Pure.pure (.obj Cn fs)) := by
  intro B0 S κ G σ H sat W tk Q q
  obtain ⟨g1, g2, _⟩ := c.gl hg
  refine ⟨fun pins s I => ?_⟩
  refine wpAny_Call_Name_kw (ld_glob I g1 hm ?_ g2)
  refine PySem.W.callWith_K0 I.kIn M.kp (runMk (us := []) (us' := []) (vs' := []) (xs := []) c M F hj hm tk (fun s u X => ?_) .nil I sat.w .nil q)
  have := hb s [u] X rfl
  rw [List.append_nil] at this
  exact this
/-- C(k = e, ..) -/
theorem ev_makeK0 (c : Ctx X N sc k) {p pos : Pos} {kws : List Keyword} {rk : m (List Val)} {is : List Nat} (M : Mk X.K Ca f) (F : InG X.prog X.w X.K X.mg X.base j Cn Ca f fd sn ps g) (hj : j + 1 ≤ k) (hb : KwI X.K fd sn ps ks 0 is) (hg : glB sc Cn = true) (hm : X.mg Cn = some (.ref Ca))
    (ha : Ek X E kws rk) (hall : ∀ env, (backToKw pos (keywordEach kws env)).all (·.1.isSome) = true) (hks : ∀ env, (backToKw pos (keywordEach kws env)).filterMap (·.1) = ks) (hpl : ∀ env, ((backTo pos (starEach [] env)).any (·.1) || (backToKw pos (keywordEach kws env)).any (·.1.isNone)) = false) :
    Ev X E (.Call (.Name Cn p) [] kws pos) (rk >>= fun zs => Mon.of (chkN 0 ks.length [] zs) >>= fun _ => g (pickL .non is zs) >>= fun fs => Pure.pure (.obj Cn fs)) := by
  intro B0 S κ G σ H sat W tk Q q
  obtain ⟨g1, g2, _⟩ := c.gl hg
  refine ⟨fun pins s I => ?_⟩
  refine wpAny_Call_Name_kw (ld_glob I g1 hm ?_ g2)
  refine PySem.W.callWith_KW0 (h₀ := X.base) I.ok.mod.kin M.kp (hall _) (thn ((ha B0 S κ G σ H sat W tk _ (bindP (R := RepL X.K X.mg) q)).run pos pins s I) fun ws s1 ⟨zs, H1, I1, r, ys, κ1, G1, S1, w1, r1, h1⟩ => ⟨I1.kIn, ?_⟩) (hpl _)
  rw [hks]
  rw [Mon.run_bind, Mon.run_of] at h1
  unfold chkN at h1
  split at h1
  · rename_i hh
    have h1 : Post X.K X.mg (Mon.pu m) (Rep X.K X.mg) κ1 G1 H1 S1 (Mon.run (g (pickL .non is ys) >>= fun fs => Pure.pure (.obj Cn fs)) S1) Q (fun c d H' => W c d σ H') := h1
    exact runMk (us := []) (us' := pickL .none is ws) (vs' := pickL .non is zs) c M F hj hm tk (fun s u X => hb s u [] ws X rfl (by rw [← r.length, r1.length]; exact hh.2)) (Vals.pick r is) I1 w1.e.w (r1.pick is) h1
  · exact h1.elim
/-- C(e, .., k = e, ..) -/
theorem ev_makeK (c : Ctx X N sc k) {p pos : Pos} {e : Expr} {es : List Expr} {kws : List Keyword} {rs rk : m (List Val)} {n : Nat} {is : List Nat} (M : Mk X.K Ca f) (F : InG X.prog X.w X.K X.mg X.base j Cn Ca f fd sn ps g) (hj : j + 1 ≤ k) (hb : KwI X.K fd sn ps ks n is) (hg : glB sc Cn = true) (hm : X.mg Cn = some (.ref Ca))
    (ha : Ea X E (e :: es) rs) (hkw : Ek X E kws rk) (hall : ∀ env, (backToKw pos (keywordEach kws env)).all (·.1.isSome) = true) (hks : ∀ env, (backToKw pos (keywordEach kws env)).filterMap (·.1) = ks) (hkn : ∀ env, (backToKw pos (keywordEach kws env)).any (·.1.isNone) = false) (hs : noStars (e :: es) = true := by rfl) :
    Ev X E (.Call (.Name Cn p) (e :: es) kws pos) (rs >>= fun xs => rk >>= fun zs => Mon.of (chkN n ks.length xs zs) >>= fun _ => g (pickL .non is (xs ++ zs)) >>= fun fs => Pure.pure (.obj Cn fs)) := by
  intro B0 S κ G σ H sat W tk Q q
  obtain ⟨g1, g2, _⟩ := c.gl hg
  obtain ⟨s1, s2⟩ := Bool.and_eq_true_iff.mp hs
  refine ⟨fun pins s I => ?_⟩
  refine wpAny_Call_Name_kw (ld_glob I g1 hm ?_ g2)
  refine PySem.W.callWith_KW (h₀ := X.base) I.ok.mod.kin M.kp (hall _) (thn ((ha B0 S κ G σ H sat W tk _ (bindP (R := RepL X.K X.mg) q)).run pos pins s I) fun us s1 ⟨vs, H1, I1, r, xs, κ1, G1, S1, w1, r1, h1⟩ => ?_) (by rw [plain_of hs, hkn]; rfl) (star_of s1 es X.env)
  refine thn ((hkw B0 S1 κ1 G1 σ H1 (sat.ext w1.weak) W tk _ (bindP (R := RepL X.K X.mg) h1)).run pos pins s1 I1) fun ws s2 ⟨zs, H2, I2, rz, ys, κ2, G2, S2, w2, r2, h2⟩ => ⟨I2.kIn, ?_⟩
  rw [hks]
  rw [Mon.run_bind, Mon.run_of] at h2
  unfold chkN at h2
  split at h2
  · rename_i hh
    have h2 : Post X.K X.mg (Mon.pu m) (Rep X.K X.mg) κ2 G2 H2 S2 (Mon.run (g (pickL .non is (xs ++ ys)) >>= fun fs => Pure.pure (.obj Cn fs)) S2) Q (fun c d H' => W c d σ H') := h2
    have r1' := r1.mono w2.e.pre w2.e.le
    exact runMk (us' := pickL .none is (us ++ ws)) (vs' := pickL .non is (vs ++ zs)) c M F hj hm tk (fun s u X => hb s u us ws X (by rw [← r.length, r1.length]; exact hh.1) (by rw [← rz.length, r2.length]; exact hh.2)) (Vals.pick (Vals.append r rz) is) I2 w2.e.w ((r1'.append r2).pick is) h2
  · exact h2.elim
end
end
end Tv

/-! properties, methods, static methods -/
namespace Tv
open PySem PySem.Spec PyProof.Rows L2

/-- an instance of the class -/
def isI (Cn : Str) : Val → Res Unit
  | .obj C fs => if C = Cn then .ok () else .stuck
  | _ => .stuck
theorem isI_ok {Cn : Str} {x : Val} {u : Unit} (h : isI Cn x = .ok u) : ∃ fs, x = .obj Cn fs := by
  unfold isI at h
  split at h
  · split at h
    · rename_i hh
      subst hh
      exact ⟨_, rfl⟩
    · cases h
  · cases h
theorem isI_cases (Cn : Str) (x : Val) : (∃ y, isI Cn x = .ok y) ∨ isI Cn x = .stuck := by
  unfold isI
  split
  · split
    · exact .inl ⟨_, rfl⟩
    · exact .inr rfl
  · exact .inr rfl
/-- C.m is a static method: its record at p, its def at g -/
structure SMet (K : PySem.W.Frag) (C : Addr) (mc : Value) (m : Str) (p g : Addr) : Prop where
  rd : PySem.W.readsIn K C mc = true
  ga : PySem.W.specialIn K (.ref C) "__getattribute__" = some (some (.builtin "type.__getattribute__"))
  at_ : PySem.W.findCls K (.ref C) mc m = some (.get (.builtin "staticmethod.__get__") (.ref p) .none (.ref C))
  rc : ∃ rest, PySem.W.recIn K p "staticmethod" = some (.ref g :: rest)
  kp : PySem.W.keepIn K (.ref g) = true
section
variable {X : Cx} {N : List Str} {sc : Scope} {k j : Nat} {E : Env} {m : Type → Type} [Mon m] {ρ : Type} {enc : ρ → Out} {rest : List Stmt} {Ks : List (List Stmt)}
variable {Cn mn : Str} {C f p g : Addr} {fd : FuncData} {ps ks : List Str} {gm : List Val → m Val}
theorem noExn_postV {α β : Type} {K : PySem.W.Frag} {mg : Str → Option Value} {b : Bool} {R : List Addr → Hp → α → β → Prop} {κ : List Addr} {G H : Hp} {S S0 : Cells} {r : M α} {Q : β → Hp → Prop} {W W' : Value → Option Addr → Hp → Prop} (h : Post K mg b R κ G H S0 (noExn r S) Q W) :
    Post K mg b R κ G H S0 (r S) Q W' := by
  unfold noExn at h
  cases e : r S with
  | mk q S' =>
    rw [e] at h
    cases q with
    | ok y => exact h
    | exn c fs => exact h.elim
    | stuck => exact h.elim
/-- o.f, a property -/
theorem ev_prop (c : Ctx X N sc k) {fn sn : Str} {e : Expr} {pos : Pos} {r : m Val} (hm : X.mg Cn = some (.ref C)) (hc : Cls X.K C) (hp : PropOf X.K C fn p g) (F : FnG X.prog X.w X.K X.mg X.base j g fd [sn] gm) (hj : j + 1 ≤ k) (hb : Binds X.K fd [sn] []) (h : Ev X E e r)
    (hab : attributeBase e fn X.env (eval e X.env) = eval e X.env := by rfl) : Ev X E (.Attribute e fn pos) (r >>= fun x => Mon.of (isI Cn x) >>= fun _ => Mon.nx (gm [x])) := by
  intro B0 S κ G σ H sat W tk Q q
  refine ⟨fun pins s I => ?_⟩
  refine attr_of hab (thn ((h B0 S κ G σ H sat W tk _ (bindP (R := Rep X.K X.mg) q)).run pins s I) fun u s1 ⟨v, H1, I1, r1, x, κ1, G1, S1, e1, rx, h1⟩ => ?_)
  rw [Mon.run_bind, Mon.run_of] at h1
  rcases isI_cases Cn x with ⟨y, ey⟩ | ey
  · rw [ey] at h1
    obtain ⟨fs, rfl⟩ := isI_ok ey
    have h1 : Post X.K X.mg (Mon.pu m) (Rep X.K X.mg) κ1 G1 H1 S1 (Mon.run (Mon.nx (gm [.obj Cn fs])) S1) Q (fun c d H' => W c d σ H') := h1
    obtain ⟨a, Ca, dx, vs, ev, hm', hG, rf⟩ := rep_obj rx
    have : Ca = C := mg_inj hm' hm
    subst this
    subst ev
    obtain rfl : u = Value.ref a := r1
    rw [Mon.run_nx] at h1
    obtain ⟨mA, O, _, _, _, _⟩ := ins_get I1.hok (e1.e.w.le _ _ hG)
    obtain ⟨od, J, _⟩ := O.look
    obtain ⟨rest, hrec⟩ := hp.rec_
    have I2 := I1.tok (s1.toks + 1)
    have hcd : (PySem.W.clsIn X.K Ca).isSome = true := by
      obtain ⟨cd, hc', _⟩ := PySem.W.any_some hc.hd
      rw [hc']
      rfl
    refine PySem.W.get_bind I1.kIn J (PySem.W.plainGet_of (hc.get fn)).1 (PySem.W.findObj_data hcd hp.at_ hp.get hp.tak) (PySem.W.plainGet_of (hc.get fn)).2 (wpAny_call (PySem.W.prop_get (s := { s1 with toks := s1.toks + 1 }) I1.kIn hrec ?_))
    have bt := hb { s1 with toks := s1.toks + 1 } [Value.ref a] I2.kIn rfl
    rw [List.append_nil] at bt
    refine codeAny_mono (F.run X.A.in1 X.stack { s1 with toks := s1.toks + 1 } H1 ⟨[.ref a], []⟩ [.ref a] [.ref a] Q (fun _ _ _ => False) κ1 G1 S1 [.obj Cn fs] (c.room.mono hj).in1 (in1_guards c.gd) I2.env0.in1 bt (.cons rfl .nil) rfl e1.e.w (.cons rx .nil) (noExn_postV h1)) fun r s' hq => ?_
    cases r with
    | error er => exact (takesF (X := X.nox) er s' (XE.of_call (X := X.nox) (I2.wish _) (fun _ _ _ z => z) hq)).elim
    | ok fl =>
      cases fl with
      | ret u =>
        obtain ⟨v, H', I3, rv, q3⟩ := I2.after hq
        show wpAny _ _ (handedOut u) _ _ _
        rw [PySem.W.handedOut_of (handed_of rv)]
        exact wpAny_pure ⟨v, H', I3, rv, q3⟩
      | next => exact False.elim hq
      | brk => exact False.elim hq
      | cont => exact False.elim hq
  · rw [ey] at h1; exact h1.elim
/-- o.m(e, ..) -/
theorem ev_meth (c : Ctx X N sc k) {pl : Sem Bool} {o e : Expr} {es : List Expr} {apos pos : Pos} {r : m Val} {rs : m (List Val)} (hm : X.mg Cn = some (.ref C)) (hc : Cls X.K C) (hM : Meth X.K C mn f) (F : FnG X.prog X.w X.K X.mg X.base j f fd ps gm) (hj : j ≤ k) (hb : Binds X.K fd ps []) (h : Ev X E o r) (ha : Ea X E (e :: es) rs)
    (ht : eval (.Call (.Attribute o mn apos) (e :: es) [] pos) X.env = (do
      let ov ← eval o X.env
      standAt apos.atName
      let (f, first) ← holding [ov] (getMethod ov mn pl)
      callWith pos f first (backTo pos (starEach (e :: es) X.env)) (backToKw pos (keywordEach [] X.env))) := by rfl) (hs : noStars (e :: es) = true := by rfl) :
    Ev X E (.Call (.Attribute o mn apos) (e :: es) [] pos) (r >>= fun x => Mon.of (isC Cn mn x) >>= fun _ => rs >>= fun xs => gm (x :: xs)) := by
  intro B0 S κ G σ H sat W tk Q q
  obtain ⟨s1, s2⟩ := Bool.and_eq_true_iff.mp hs
  refine ⟨fun pins s I => ?_⟩
  refine PySem.W.methodCall_KW (pl := pl) (thn ((h B0 S κ G σ H sat W tk _ (bindP (R := Rep X.K X.mg) q)).run pins s I) fun u s1' ⟨v, H1, I1, r1, x, κ1, G1, S1, e1, rx, h1⟩ => ?_) ht
  rw [Mon.run_bind, Mon.run_of] at h1
  rcases isC_cases Cn mn x with ⟨y, ey⟩ | ey
  · rw [ey] at h1
    obtain ⟨fs, rfl, hl⟩ := isC_ok ey
    have h1 : Post X.K X.mg (Mon.pu m) (Rep X.K X.mg) κ1 G1 H1 S1 (Mon.run (rs >>= fun xs => gm (.obj Cn fs :: xs)) S1) Q (fun c d H' => W c d σ H') := h1
    obtain ⟨a, Ca, dx, vs, ev, hm', hG, rf⟩ := rep_obj rx
    have : Ca = C := mg_inj hm' hm
    subst this
    subst ev
    obtain rfl : u = Value.ref a := r1
    refine getmeth_ok I1 (e1.e.w.le _ _ hG) hc hM (by
      rcases rf.look mn with ⟨_, l⟩ | ⟨_, _, l, _⟩
      · exact l
      · rw [l] at hl; cases hl) ?_
    refine PySem.W.callWith_K (first := [.ref a]) (h₀ := X.base) I.ok.mod.kin hM.kp (thn ((ha B0 S1 κ1 G1 σ H1 (sat.ext e1.weak) W tk _ (bindP h1)).run pos pins s1' I1) fun us s2 ⟨vs, H2, I2, r, xs, κ2, G2, S2, w2, r2, h2⟩ => ⟨I2.kIn, ?_⟩) (star_of s1 es X.env) (plain_of s2 pos X.env)
    exact runG (us := .ref a :: us) (vs := .ref a :: vs) c F hj hb tk I2 (.cons rfl r) w2.e.w (.cons (rx.mono w2.e.pre w2.e.le) r2) h2
  · rw [ey] at h1; exact h1.elim
/-- o.m() -/
theorem ev_meth0 (c : Ctx X N sc k) {pl : Sem Bool} {o : Expr} {apos pos : Pos} {r : m Val} (hm : X.mg Cn = some (.ref C)) (hc : Cls X.K C) (hM : Meth X.K C mn f) (F : FnG X.prog X.w X.K X.mg X.base j f fd ps gm) (hj : j ≤ k) (hb : Binds X.K fd ps []) (h : Ev X E o r)
    (ht : eval (.Call (.Attribute o mn apos) [] [] pos) X.env = (do
      let ov ← eval o X.env
      standAt apos.atName
      let (f, first) ← holding [ov] (getMethod ov mn pl)
      callWith pos f first (backTo pos (starEach [] X.env)) (backToKw pos (keywordEach [] X.env))) := by rfl) :
    Ev X E (.Call (.Attribute o mn apos) [] [] pos) (r >>= fun x => Mon.of (isC Cn mn x) >>= fun _ => gm [x]) := by
  intro B0 S κ G σ H sat W tk Q q
  refine ⟨fun pins s I => ?_⟩
  refine PySem.W.methodCall_KW (pl := pl) (thn ((h B0 S κ G σ H sat W tk _ (bindP (R := Rep X.K X.mg) q)).run pins s I) fun u s1' ⟨v, H1, I1, r1, x, κ1, G1, S1, e1, rx, h1⟩ => ?_) ht
  rw [Mon.run_bind, Mon.run_of] at h1
  rcases isC_cases Cn mn x with ⟨y, ey⟩ | ey
  · rw [ey] at h1
    obtain ⟨fs, rfl, hl⟩ := isC_ok ey
    have h1 : Post X.K X.mg (Mon.pu m) (Rep X.K X.mg) κ1 G1 H1 S1 (Mon.run (gm [.obj Cn fs]) S1) Q (fun c d H' => W c d σ H') := h1
    obtain ⟨a, Ca, dx, vs, ev, hm', hG, rf⟩ := rep_obj rx
    have : Ca = C := mg_inj hm' hm
    subst this
    subst ev
    obtain rfl : u = Value.ref a := r1
    refine getmeth_ok I1 (e1.e.w.le _ _ hG) hc hM (by
      rcases rf.look mn with ⟨_, l⟩ | ⟨_, _, l, _⟩
      · exact l
      · rw [l] at hl; cases hl) ?_
    exact PySem.W.callWith_K0 (first := [.ref a]) I1.kIn hM.kp (runG (us := [.ref a]) (vs := [.ref a]) c F hj hb tk I1 (.cons rfl .nil) e1.e.w (.cons rx .nil) h1)
  · rw [ey] at h1; exact h1.elim
/-- o.m(k = e, ..) -/
theorem ev_methK0 (c : Ctx X N sc k) {pl : Sem Bool} {o : Expr} {kws : List Keyword} {apos pos : Pos} {r : m Val} {rk : m (List Val)} {is : List Nat} (hm : X.mg Cn = some (.ref C)) (hc : Cls X.K C) (hM : Meth X.K C mn f) (F : FnG X.prog X.w X.K X.mg X.base j f fd ps gm) (hj : j ≤ k) (hb : KwB X.K fd ps ks 1 is) (h : Ev X E o r) (ha : Ek X E kws rk)
    (hall : ∀ env, (backToKw pos (keywordEach kws env)).all (·.1.isSome) = true) (hks : ∀ env, (backToKw pos (keywordEach kws env)).filterMap (·.1) = ks) (hpl : ∀ env, ((backTo pos (starEach [] env)).any (·.1) || (backToKw pos (keywordEach kws env)).any (·.1.isNone)) = false)
    (ht : eval (.Call (.Attribute o mn apos) [] kws pos) X.env = (do
      let ov ← eval o X.env
      standAt apos.atName
      let (f, first) ← holding [ov] (getMethod ov mn pl)
      callWith pos f first (backTo pos (starEach [] X.env)) (backToKw pos (keywordEach kws X.env))) := by rfl) :
    Ev X E (.Call (.Attribute o mn apos) [] kws pos) (r >>= fun x => Mon.of (isC Cn mn x) >>= fun _ => rk >>= fun zs => Mon.of (chkN 1 ks.length [x] zs) >>= fun _ => gm (pickL .non is (x :: zs))) := by
  intro B0 S κ G σ H sat W tk Q q
  refine ⟨fun pins s I => ?_⟩
  refine PySem.W.methodCall_KW (pl := pl) (thn ((h B0 S κ G σ H sat W tk _ (bindP (R := Rep X.K X.mg) q)).run pins s I) fun u s1' ⟨v, H1, I1, r1, x, κ1, G1, S1, e1, rx, h1⟩ => ?_) ht
  rw [Mon.run_bind, Mon.run_of] at h1
  rcases isC_cases Cn mn x with ⟨y, ey⟩ | ey
  · rw [ey] at h1
    obtain ⟨fs, rfl, hl⟩ := isC_ok ey
    have h1 : Post X.K X.mg (Mon.pu m) (Rep X.K X.mg) κ1 G1 H1 S1 (Mon.run (rk >>= fun zs => Mon.of (chkN 1 ks.length [.obj Cn fs] zs) >>= fun _ => gm (pickL .non is (.obj Cn fs :: zs))) S1) Q (fun c d H' => W c d σ H') := h1
    obtain ⟨a, Ca, dx, vs, ev, hm', hG, rf⟩ := rep_obj rx
    have : Ca = C := mg_inj hm' hm
    subst this
    subst ev
    obtain rfl : u = Value.ref a := r1
    refine getmeth_ok I1 (e1.e.w.le _ _ hG) hc hM (by
      rcases rf.look mn with ⟨_, l⟩ | ⟨_, _, l, _⟩
      · exact l
      · rw [l] at hl; cases hl) ?_
    refine PySem.W.callWith_KW0 (first := [.ref a]) (h₀ := X.base) I.ok.mod.kin hM.kp (hall _) (thn ((ha B0 S1 κ1 G1 σ H1 (sat.ext e1.weak) W tk _ (bindP (R := RepL X.K X.mg) h1)).run pos pins s1' I1) fun ws s2 ⟨zs, H2, I2, r, ys, κ2, G2, S2, w2, r2, h2⟩ => ⟨I2.kIn, ?_⟩) (hpl _)
    rw [hks]
    rw [Mon.run_bind, Mon.run_of] at h2
    unfold chkN at h2
    split at h2
    · rename_i hh
      have h2 : Post X.K X.mg (Mon.pu m) (Rep X.K X.mg) κ2 G2 H2 S2 (Mon.run (gm (pickL .non is (.obj Cn fs :: ys))) S2) Q (fun c d H' => W c d σ H') := h2
      exact runGK (us := [.ref a]) (vs := [.ref a]) (xs := [.obj Cn fs]) c F hj hb tk I2 (.cons rfl .nil) r w2.e.w (.cons (rx.mono w2.e.pre w2.e.le) .nil) r2 rfl hh.2 h2
    · exact h2.elim
  · rw [ey] at h1; exact h1.elim
/-- o.m(e, .., k = e, ..) -/
theorem ev_methK (c : Ctx X N sc k) {pl : Sem Bool} {o e : Expr} {es : List Expr} {kws : List Keyword} {apos pos : Pos} {r : m Val} {rs rk : m (List Val)} {n : Nat} {is : List Nat} (hm : X.mg Cn = some (.ref C)) (hc : Cls X.K C) (hM : Meth X.K C mn f) (F : FnG X.prog X.w X.K X.mg X.base j f fd ps gm) (hj : j ≤ k) (hb : KwB X.K fd ps ks (n + 1) is) (h : Ev X E o r) (ha : Ea X E (e :: es) rs) (hkw : Ek X E kws rk)
    (hall : ∀ env, (backToKw pos (keywordEach kws env)).all (·.1.isSome) = true) (hks : ∀ env, (backToKw pos (keywordEach kws env)).filterMap (·.1) = ks) (hkn : ∀ env, (backToKw pos (keywordEach kws env)).any (·.1.isNone) = false)
    (ht : eval (.Call (.Attribute o mn apos) (e :: es) kws pos) X.env = (do
      let ov ← eval o X.env
      standAt apos.atName
      let (f, first) ← holding [ov] (getMethod ov mn pl)
      callWith pos f first (backTo pos (starEach (e :: es) X.env)) (backToKw pos (keywordEach kws X.env))) := by rfl) (hs : noStars (e :: es) = true := by rfl) :
    Ev X E (.Call (.Attribute o mn apos) (e :: es) kws pos) (r >>= fun x => Mon.of (isC Cn mn x) >>= fun _ => rs >>= fun xs => rk >>= fun zs => Mon.of (chkN (n + 1) ks.length (x :: xs) zs) >>= fun _ => gm (pickL .non is ((x :: xs) ++ zs))) := by
  intro B0 S κ G σ H sat W tk Q q
  obtain ⟨s1, s2⟩ := Bool.and_eq_true_iff.mp hs
  refine ⟨fun pins s I => ?_⟩
  refine PySem.W.methodCall_KW (pl := pl) (thn ((h B0 S κ G σ H sat W tk _ (bindP (R := Rep X.K X.mg) q)).run pins s I) fun u s1' ⟨v, H1, I1, r1, x, κ1, G1, S1, e1, rx, h1⟩ => ?_) ht
  rw [Mon.run_bind, Mon.run_of] at h1
  rcases isC_cases Cn mn x with ⟨y, ey⟩ | ey
  · rw [ey] at h1
    obtain ⟨fs, rfl, hl⟩ := isC_ok ey
    have h1 : Post X.K X.mg (Mon.pu m) (Rep X.K X.mg) κ1 G1 H1 S1 (Mon.run (rs >>= fun xs => rk >>= fun zs => Mon.of (chkN (n + 1) ks.length (.obj Cn fs :: xs) zs) >>= fun _ => gm (pickL .non is ((.obj Cn fs :: xs) ++ zs))) S1) Q (fun c d H' => W c d σ H') := h1
    obtain ⟨a, Ca, dx, vs, ev, hm', hG, rf⟩ := rep_obj rx
    have : Ca = C := mg_inj hm' hm
    subst this
    subst ev
    obtain rfl : u = Value.ref a := r1
    refine getmeth_ok I1 (e1.e.w.le _ _ hG) hc hM (by
      rcases rf.look mn with ⟨_, l⟩ | ⟨_, _, l, _⟩
      · exact l
      · rw [l] at hl; cases hl) ?_
    refine PySem.W.callWith_KW (first := [.ref a]) (h₀ := X.base) I.ok.mod.kin hM.kp (hall _) (thn ((ha B0 S1 κ1 G1 σ H1 (sat.ext e1.weak) W tk _ (bindP (R := RepL X.K X.mg) h1)).run pos pins s1' I1) fun us s2' ⟨vs, H2, I2, r, xs, κ2, G2, S2, w2, r2, h2⟩ => ?_) (by rw [plain_of hs, hkn]; rfl) (star_of s1 es X.env)
    refine thn ((hkw B0 S2 κ2 G2 σ H2 ((sat.ext e1.weak).ext w2.weak) W tk _ (bindP (R := RepL X.K X.mg) h2)).run pos pins s2' I2) fun ws s3 ⟨zs, H3, I3, rz, ys, κ3, G3, S3, w3, r3, h3⟩ => ⟨I3.kIn, ?_⟩
    rw [hks]
    rw [Mon.run_bind, Mon.run_of] at h3
    unfold chkN at h3
    split at h3
    · rename_i hh
      have h3 : Post X.K X.mg (Mon.pu m) (Rep X.K X.mg) κ3 G3 H3 S3 (Mon.run (gm (pickL .non is ((.obj Cn fs :: xs) ++ ys))) S3) Q (fun c d H' => W c d σ H') := h3
      exact runGK (us := .ref a :: us) (vs := .ref a :: vs) (xs := .obj Cn fs :: xs) c F hj hb tk I3 (.cons rfl r) rz w3.e.w ((RepL.cons (rx.mono w2.e.pre w2.e.le) r2).mono w3.e.pre w3.e.le) r3 hh.1 hh.2 h3
    · exact h3.elim
  · rw [ey] at h1; exact h1.elim
/-- C.m: the def itself -/
theorem getsmet {pins : List (Addr × Obj)} {σ : L2.St} {H : Hp} {s : Shared} {mc : Value} {pl : Sem Bool} {Q : Value × List Value → Shared → Prop} {A : Around} {E' : Value → Shared → Prop} (I : L2.Inv X pins σ H s) (k : SMet X.K C mc mn p g) (h : ∀ s', L2.Inv X pins σ H s' → Q (.ref g, []) s') :
    wpAny (model X.prog X.w) A (getMethod (.ref C) mn pl) Q E' s := by
  obtain ⟨rest, hp⟩ := k.rc
  refine PySem.W.method_cls I.kIn k.ga (PySem.W.cls_bind I.kIn k.rd k.at_ ?_)
  exact wpAny_call (PySem.W.sm_get (s := { s with toks := s.toks + 1 }) I.kIn hp (PySem.W.handed_on rfl (h _ (I.tok _))))
/-- C.m(e, ..), static -/
theorem ev_smeth (c : Ctx X N sc k) {pl : Sem Bool} {mc : Value} {e : Expr} {es : List Expr} {p' apos pos : Pos} {rs : m (List Val)} (hg : glB sc Cn = true) (hm : X.mg Cn = some (.ref C)) (hM : SMet X.K C mc mn p g) (F : FnG X.prog X.w X.K X.mg X.base j g fd ps gm) (hj : j ≤ k) (hb : Binds X.K fd ps []) (ha : Ea X E (e :: es) rs)
    (ht : eval (.Call (.Attribute (.Name Cn p') mn apos) (e :: es) [] pos) X.env = (do
      let ov ← eval (.Name Cn p') X.env
      standAt apos.atName
      let (f, first) ← holding [ov] (getMethod ov mn pl)
      callWith pos f first (backTo pos (starEach (e :: es) X.env)) (backToKw pos (keywordEach [] X.env))) := by rfl) (hs : noStars (e :: es) = true := by rfl) :
    Ev X E (.Call (.Attribute (.Name Cn p') mn apos) (e :: es) [] pos) (rs >>= fun xs => gm xs) := by
  intro B0 S κ G σ H sat W tk Q q
  obtain ⟨g1, g2, _⟩ := c.gl hg
  obtain ⟨s1, s2⟩ := Bool.and_eq_true_iff.mp hs
  refine ⟨fun pins s I => ?_⟩
  refine PySem.W.methodCall_KW (pl := pl) (ld_glob I g1 hm ?_ g2) ht
  refine getsmet I hM fun s' I' => ?_
  refine PySem.W.callWith_K (first := []) (h₀ := X.base) I.ok.mod.kin hM.kp (thn ((ha B0 S κ G σ H sat W tk _ (bindP q)).run pos pins s' I') fun us s2 ⟨vs, H2, I2, r, xs, κ2, G2, S2, w2, r2, h2⟩ => ⟨I2.kIn, ?_⟩) (star_of s1 es X.env) (plain_of s2 pos X.env)
  exact runG c F hj hb tk I2 r w2.e.w r2 h2
/-- C.m(k = e, ..), static -/
theorem ev_smethK0 (c : Ctx X N sc k) {pl : Sem Bool} {mc : Value} {kws : List Keyword} {p' apos pos : Pos} {rk : m (List Val)} {is : List Nat} (hg : glB sc Cn = true) (hm : X.mg Cn = some (.ref C)) (hM : SMet X.K C mc mn p g) (F : FnG X.prog X.w X.K X.mg X.base j g fd ps gm) (hj : j ≤ k) (hb : KwB X.K fd ps ks 0 is) (ha : Ek X E kws rk)
    (hall : ∀ env, (backToKw pos (keywordEach kws env)).all (·.1.isSome) = true) (hks : ∀ env, (backToKw pos (keywordEach kws env)).filterMap (·.1) = ks) (hpl : ∀ env, ((backTo pos (starEach [] env)).any (·.1) || (backToKw pos (keywordEach kws env)).any (·.1.isNone)) = false)
    (ht : eval (.Call (.Attribute (.Name Cn p') mn apos) [] kws pos) X.env = (do
      let ov ← eval (.Name Cn p') X.env
      standAt apos.atName
      let (f, first) ← holding [ov] (getMethod ov mn pl)
      callWith pos f first (backTo pos (starEach [] X.env)) (backToKw pos (keywordEach kws X.env))) := by rfl) :
    Ev X E (.Call (.Attribute (.Name Cn p') mn apos) [] kws pos) (rk >>= fun zs => Mon.of (chkN 0 ks.length [] zs) >>= fun _ => gm (pickL .non is zs)) := by
  intro B0 S κ G σ H sat W tk Q q
  obtain ⟨g1, g2, _⟩ := c.gl hg
  refine ⟨fun pins s I => ?_⟩
  refine PySem.W.methodCall_KW (pl := pl) (ld_glob I g1 hm ?_ g2) ht
  refine getsmet I hM fun s' I' => ?_
  refine PySem.W.callWith_KW0 (first := []) (h₀ := X.base) I.ok.mod.kin hM.kp (hall _) (thn ((ha B0 S κ G σ H sat W tk _ (bindP (R := RepL X.K X.mg) q)).run pos pins s' I') fun ws s2 ⟨zs, H2, I2, r, ys, κ2, G2, S2, w2, r2, h2⟩ => ⟨I2.kIn, ?_⟩) (hpl _)
  rw [hks]
  rw [Mon.run_bind, Mon.run_of] at h2
  unfold chkN at h2
  split at h2
  · rename_i hh
    have h2 : Post X.K X.mg (Mon.pu m) (Rep X.K X.mg) κ2 G2 H2 S2 (Mon.run (gm (pickL .non is ys)) S2) Q (fun c d H' => W c d σ H') := h2
    exact runGK (us := []) (vs := []) (xs := []) c F hj hb tk I2 .nil r w2.e.w .nil r2 rfl hh.2 h2
  · exact h2.elim
end
end Tv

/-! isinstance of own classes; recursion; defs of classes -/
namespace Tv
open PySem PySem.Spec PyProof.Rows L2

def tyNames : List String := ["NoneType", "bool", "int", "str", "tuple", "list", "dict"]
theorem tyName_mem {x : Val} {t : String} (h : tyName x = some t) : t ∈ tyNames := by
  cases x <;> first | (cases h; decide) | cases h
/-- isinstance(x, D): of built-in values never, of an instance as the table says -/
def fIsO (cs : List (Str × Bool)) : Val → Res Val
  | .obj C _ => match cs.lookup C with
    | some b => .ok (.bl b)
    | none => .stuck
  | x => match tyName x with
    | some _ => .ok (.bl false)
    | none => .stuck
/-- what an instance's class must tell of itself for isinstance -/
structure InsK (K : PySem.W.Frag) (C : Addr) : Prop where
  cl : Cls K C
  ha : PySem.W.findIn K (.ref C) "__class__" = some (some (.builtin "object.__class__"))
  hn : PySem.W.specialIn K (.builtin "object.__class__") "__get__" = some (some (.builtin "getset_descriptor.__get__"))
  htk : PySem.W.takesIn K (.builtin "object.__class__") = some true
  hm : PySem.W.mroIn K C (.type "object") = some true
structure IsiO (K : PySem.W.Frag) (mg : Str → Option Value) (D : Addr) (cs : List (Str × Bool)) : Prop where
  bt : ∀ t ∈ tyNames, PySem.W.kitOne K (.type t) (.ref D) = some false
  ow : ∀ C b, cs.lookup C = some b → ∀ Ca, mg C = some (.ref Ca) → InsK K Ca ∧ PySem.W.kitOne K (.ref Ca) (.ref D) = some b
section
variable {X : Cx} {N : List Str} {sc : Scope} {k j : Nat} {E : Env} {m : Type → Type} [Mon m] {ρ : Type} {enc : ρ → Out} {rest : List Stmt} {Ks : List (List Stmt)}
theorem ev_isO (c : Ctx X N sc k) {a : Expr} {Dn : Str} {D : Addr} {cs : List (Str × Bool)} {p p2 pos : Pos} {r : m Val} (hg : glB sc "isinstance" = true) (hm : X.mg "isinstance" = none) (hgT : glB sc Dn = true) (hmT : X.mg Dn = some (.ref D)) (T : IsiO X.K X.mg D cs)
    (h : Ev X E a r) (hs : notStar a = true := by rfl) : Ev X E (.Call (.Name "isinstance" p) [a, .Name Dn p2] [] pos) (r >>= fun x => Mon.of (fIsO cs x)) := by
  intro B0 S κ G σ H sat W tk Q q
  obtain ⟨g1, g2, g3⟩ := c.gl hg
  obtain ⟨t1, t2, t3⟩ := c.gl hgT
  refine we_of (pe_callB call_isi g1 hm PyProof.Rows.boot_isinstance (pa_cons pe_self (pa_cons (pe_glob t1 hmT rfl t2 : PE X (.Name Dn p2) (tC (.ref D))) pa_nil rfl) (star_of hs _ _)) (hn := g3) (hdb := g2) (he := star_of hs _ X.env) (hpl := plain_of (es := [.Name Dn p2]) rfl pos X.env)) ?_
  refine h B0 S κ G σ H sat W tk _ (bindW q fun x v κ1 G1 H1 S1 e1 r1 h1 => ?_)
  have h2 := h1.ofOk
  have bt : ∀ x : Val, Rep X.K X.mg κ1 G1 x v → (fIsO cs x = match tyName x with | some _ => Res.ok (.bl false) | none => .stuck) → Post X.K X.mg true (Rep X.K X.mg) κ1 G1 H1 S1 (lift (fIsO cs x) S1) Q (fun c d H' => W c d σ H') → rIsi X.K [v, V.ref D] H1 Q := by
    intro x rx hx h2
    rw [hx] at h2
    cases ht : tyName x with
    | none => rw [ht] at h2; exact h2.elim
    | some t =>
      rw [ht] at h2
      exact ⟨v, .ref D, .type t, .ref D, false, rfl, .own D, tyX_of e1.e.w.le rx ht, T.bt t (tyName_mem ht), h2.okR e1.e.w (repB _)⟩
  cases x with
  | obj C fs =>
    obtain ⟨ad, Ca, dx, vs, ev, hmC, hG, rf⟩ := rep_obj r1
    subst ev
    unfold fIsO at h2
    simp only at h2
    cases hl : cs.lookup C with
    | none => rw [hl] at h2; exact h2.elim
    | some b =>
      rw [hl] at h2
      obtain ⟨I, ko⟩ := T.ow C b hl Ca hmC
      exact ⟨.ref ad, .ref D, .ref Ca, .ref D, b, rfl, .own D, .base (.ins (e1.e.w.le _ _ hG) I.cl I.ha I.hn I.htk I.hm), ko, h2.okR e1.e.w (repB _)⟩
  | _ => exact bt _ r1 rfl h2
end
section
variable {P : Program} {w : World} {K : PySem.W.Frag} {mg : Str → Option Value} {base : Heap} {m : Type → Type} [Mon m] {x qual : Str} {params : Arguments} {body : List Stmt} {scope : Scope} {dvs : List V} {kws : List (Str × V)} {f : Addr} {fd : FuncData}
/-- no fuel: nothing is said -/
theorem FnG.none {k : Nat} {ps : List Str} : FnG P w K mg base k f fd ps (fun _ => (Mon.of .stuck : m Val)) :=
  ⟨fun _ _ => rfl, fun A outer s H args us vs Q E κ G S xs _ _ _ _ _ _ _ _ hp => by
    rw [Mon.run_of] at hp
    exact hp.elim⟩
theorem okI {N ps : List Str} {sn Cn : Str} {Ca : Addr} {k : Nat} {g : List Val → m (List (Str × Val))} (F : FunD K x qual params body scope dvs kws f fd) (S : FnScope N (sn :: ps) scope) (hlen : ∀ xs, xs.length ≠ ps.length → g xs = Mon.of .stuck)
    (hb : ∀ (cdv : Value) (A : Around) (outer : List PySem.Env) (s : Shared) (H : Hp) (E : XK) (a : Addr) (xs : List Val), CtxF (cxOf (L2.CX P w) P w K mg base N qual scope f cdv A outer s H E) N scope k → xs.length = ps.length →
      Sx (cxOf (L2.CX P w) P w K mg base N qual scope f cdv A outer s H E) (startI N a Cn xs) body [] (g xs) (encI N a Cn)) : InG P w K mg base (k + 1) Cn Ca f fd sn ps g := by
  obtain ⟨oc, od, dV, kV, doc, pm, an, cdv, ct, osl, e, lk, hcd, _, _⟩ := F.ex
  subst e
  exact inG_of lk hcd S hlen fun A outer s H E a xs c hl => hb cdv A outer s H E a xs c hl
theorem InG.toM {k : Nat} {Cn sn : Str} {Ca : Addr} {ps : List Str} {g : List Val → Res (List (Str × Val))} (F : InG P w K mg base k Cn Ca f fd sn ps g) : InG P w K mg base k Cn Ca f fd sn ps (fun xs => (Mon.of (g xs) : M (List (Str × Val)))) where
  len := fun xs h => by rw [F.len xs h]; rfl
  run := fun A outer s H args us vs Q E κ G S xs a dx hr hg h1 h2 h3 h4 e0 hb r hl wd rl hp => F.run A outer s H args us vs Q E κ G S xs a dx hr hg h1 h2 h3 h4 e0 hb r hl wd rl (by
    have e : ((Mon.of (g xs) : M (List (Str × Val))) >>= fun fs => Pure.pure (Val.obj Cn fs)) = Mon.of (g xs >>= fun fs => Pure.pure (Val.obj Cn fs)) := (lift_bind (g xs) _).symm
    rw [e] at hp
    exact Post.ofOk (m := M) hp)
end
end Tv

/-! the head's facts: classes too -/
namespace Tv
open PySem PySem.Spec PyProof.Rows L2

abbrev FaY : Type := PySem.W.Frag → Bool
def glB_ (K : PySem.W.Frag) (x : Str) : Bool := (He.Fa.glo x).ok K
/-- the getter of a property -/
def pgA (K : PySem.W.Frag) (C f : Str) : Addr := match PySem.W.recIn K (He.ma K (He.ga K C) f) "property" with
  | some (.ref g :: _) => g
  | _ => 0
def propB (C f : Str) : FaY := fun K => He.eqO (PySem.W.findIn K (.ref (He.ga K C)) f) (some (some (.ref (He.ma K (He.ga K C) f)))) && (He.eqO (PySem.W.specialIn K (.ref (He.ma K (He.ga K C) f)) "__get__") (some (some (.builtin "property.__get__"))) &&
  (decide (PySem.W.takesIn K (.ref (He.ma K (He.ga K C) f)) = some true) && (match PySem.W.recIn K (He.ma K (He.ga K C) f) "property" with
    | some (.ref g :: _) => true
    | _ => false)))
theorem prop_ok {K : PySem.W.Frag} {C f : Str} (h : propB C f K = true) : PropOf K (He.ga K C) f (He.ma K (He.ga K C) f) (pgA K C f) := by
  obtain ⟨h1, h⟩ := He.ba h
  obtain ⟨h2, h⟩ := He.ba h
  obtain ⟨h3, h4⟩ := He.ba h
  refine ⟨He.eqO_ok h1, He.eqO_ok h2, of_decide_eq_true h3, ?_⟩
  unfold pgA
  split at h4
  · rename_i g r e
    rw [e]
    exact ⟨r, rfl⟩
  · cases h4
/-- the record, the def of a static method -/
def spA (K : PySem.W.Frag) (C m : Str) : Addr := match PySem.W.findCls K (.ref (He.ga K C)) (.type "type") m with
  | some (.get _ (.ref p) _ _) => p
  | _ => 0
def sgA (K : PySem.W.Frag) (C m : Str) : Addr := match PySem.W.recIn K (spA K C m) "staticmethod" with
  | some (.ref g :: _) => g
  | _ => 0
def smetB (C m : Str) : FaY := fun K => PySem.W.readsIn K (He.ga K C) (.type "type") && (He.eqO (PySem.W.specialIn K (.ref (He.ga K C)) "__getattribute__") (some (some (.builtin "type.__getattribute__"))) &&
  ((match PySem.W.findCls K (.ref (He.ga K C)) (.type "type") m with
    | some (.get g (.ref p) o t) => decide (g = .builtin "staticmethod.__get__" ∧ o = .none ∧ t = .ref (He.ga K C))
    | _ => false) && ((match PySem.W.recIn K (spA K C m) "staticmethod" with
    | some (.ref g :: _) => true
    | _ => false) && PySem.W.keepIn K (.ref (sgA K C m)))))
theorem smet_ok {K : PySem.W.Frag} {C m : Str} (h : smetB C m K = true) : SMet K (He.ga K C) (.type "type") m (spA K C m) (sgA K C m) := by
  obtain ⟨h1, h⟩ := He.ba h
  obtain ⟨h2, h⟩ := He.ba h
  obtain ⟨h3, h⟩ := He.ba h
  obtain ⟨h4, h5⟩ := He.ba h
  refine ⟨h1, He.eqO_ok h2, ?_, ?_, h5⟩
  · unfold spA
    split at h3
    · rename_i g p o t e
      obtain ⟨e1, e2, e3⟩ := of_decide_eq_true h3
      rw [e, e1, e2, e3]
    · cases h3
  · unfold sgA
    split at h4
    · rename_i g r e
      rw [e]
      exact ⟨r, rfl⟩
    · cases h4
def insB (C : Str) : FaY := fun K => (He.Fa.cls C).ok K && (He.eqO (PySem.W.findIn K (.ref (He.ga K C)) "__class__") (some (some (.builtin "object.__class__"))) && (He.eqO (PySem.W.specialIn K (.builtin "object.__class__") "__get__") (some (some (.builtin "getset_descriptor.__get__"))) &&
  (decide (PySem.W.takesIn K (.builtin "object.__class__") = some true) && decide (PySem.W.mroIn K (He.ga K C) (.type "object") = some true))))
theorem ins_ok {K : PySem.W.Frag} {C : Str} (h : insB C K = true) : InsK K (He.ga K C) := by
  obtain ⟨h1, h⟩ := He.ba h
  obtain ⟨h2, h⟩ := He.ba h
  obtain ⟨h3, h⟩ := He.ba h
  obtain ⟨h4, h5⟩ := He.ba h
  exact ⟨He.cls_ok h1, He.eqO_ok h2, He.eqO_ok h3, of_decide_eq_true h4, of_decide_eq_true h5⟩
def isiB (D : Str) (cs : List (Str × Bool)) : FaY := fun K => (tyNames.all fun t => decide (PySem.W.kitOne K (.type t) (.ref (He.ga K D)) = some false)) && cs.all fun q => (He.Fa.glo q.1).ok K && (insB q.1 K && decide (PySem.W.kitOne K (.ref (He.ga K q.1)) (.ref (He.ga K D)) = some q.2))
theorem lookup_mem {α β : Type} [BEq α] [LawfulBEq α] {a : α} {b : β} : ∀ {l : List (α × β)}, l.lookup a = some b → (a, b) ∈ l
  | [], h => nomatch (show (none : Option β) = some b from h)
  | (x, y) :: l, h => by
    rw [List.lookup_cons] at h
    cases e : (a == x) with
    | true =>
      rw [e] at h
      cases h
      rw [eq_of_beq e]
      exact List.mem_cons_self
    | false =>
      rw [e] at h
      exact List.mem_cons_of_mem _ (lookup_mem h)
theorem isi_ok {K : PySem.W.Frag} {h : Heap} {mg : Str → Option Value} (X : K.In h) (G : h.Ns mainGlobals mg) {D : Str} {cs : List (Str × Bool)} (c : isiB D cs K = true) : IsiO K mg (He.ga K D) cs := by
  obtain ⟨h1, h2⟩ := He.ba c
  refine ⟨fun t ht => of_decide_eq_true (List.all_eq_true.mp h1 t ht), fun C b hl Ca hm => ?_⟩
  have h3 := List.all_eq_true.mp h2 _ (lookup_mem hl)
  obtain ⟨h4, h5⟩ := He.ba h3
  obtain ⟨h5, h6⟩ := He.ba h5
  have e := hm.symm.trans (He.glo_ok X G h4)
  cases e
  exact ⟨ins_ok h5, of_decide_eq_true h6⟩
/-- what a class with its own attributes tells -/
theorem fld_ok {K : PySem.W.Frag} {h : Heap} {mg : Str → Option Value} (X : K.In h) (G : h.Ns mainGlobals mg) {C f : Str} (h1 : (He.Fa.glo C).ok K = true) (h2 : (He.Fa.cls C).ok K = true) (h3 : (He.Fa.noat C f).ok K = true) : ∀ Ca, mg C = some (.ref Ca) → Cls K Ca ∧ NoAttr K Ca f := fun Ca hm => by
  have e := hm.symm.trans (He.glo_ok X G h1)
  cases e
  exact ⟨He.cls_ok h2, He.noat_ok h3⟩
/-! ### defs by addresses of one's own -/
structure DefY where
  ad : PySem.W.Frag → Addr
  name : Str
  qual : Str
  params : Arguments
  body : List Stmt
  scope : Scope
def DefY.val (d : DefY) : He.FnW := some (d.name, d.qual, d.params, .stmts d.body, d.scope, mainGlobals, [], builtinsNs)
def fnY (K : PySem.W.Frag) (a : Addr) : He.FnW := match K.lookup a with
  | some ⟨_, _, .func fd, _⟩ => some (fd.name, fd.qualname, fd.params, fd.body, fd.scope, fd.globals, fd.closure, fd.builtins)
  | _ => none
def DefY.ok (K : PySem.W.Frag) (d : DefY) : Bool := PySem.W.keepIn K (.ref (d.ad K)) && (match K.lookup (d.ad K) with
  | some ⟨_, _, .func fd, _⟩ => PySem.W.codeIn K fd.code d.qual && (He.dflB K fd.defaults [] && He.kwdB K fd.kwdefaults [])
  | _ => false)
theorem DefY.funD {K : PySem.W.Frag} {d : DefY} (e : fnY K (d.ad K) = d.val) (c : d.ok K = true) : ∃ fd, FunD K d.name d.qual d.params d.body d.scope [] [] (d.ad K) fd := by
  obtain ⟨kp, c2⟩ := He.ba c
  unfold fnY at e
  cases q : K.lookup (d.ad K) with
  | none =>
    rw [q] at c2
    cases c2
  | some o =>
    obtain ⟨oc, od, dt, osl⟩ := o
    rw [q] at c2 e
    cases dt with
    | func fd =>
      obtain ⟨n1, n2, n3, n4, n5, n6, n7, n8, n9, n10, n11, n12, n13, n14, n15⟩ := fd
      have e2 : (some (n1, n2, n3, n4, n5, n6, n7, n15) : He.FnW) = some (d.name, d.qual, d.params, .stmts d.body, d.scope, mainGlobals, [], builtinsNs) := e
      simp only [Option.some.injEq, Prod.mk.injEq] at e2
      obtain ⟨h1, h2, h3, h4, h5, h6, h7, h8⟩ := e2
      subst h1 h2 h3 h4 h5 h6 h7 h8
      have c3 : (PySem.W.codeIn K n13 d.qual && (He.dflB K n8 [] && He.kwdB K n9 [])) = true := c2
      obtain ⟨k1, k2⟩ := He.ba c3
      obtain ⟨k3, k4⟩ := He.ba k2
      exact ⟨_, ⟨oc, od, n8, n9, n10, n11, n12, n13, n14, osl, rfl, q, k1, He.dflB_ok k3, He.kwdB_ok k4⟩, kp⟩
    | _ => cases c2
abbrev AlY : Type := Bool × List He.FnW
def obsY (fa : List FaY) (fn : List DefY) (ts : List TabI) (K : PySem.W.Frag) : AlY := ((ts.all (tabOk K) && fa.all fun f => f K) && fn.all fun d => d.ok K, fn.map fun d => fnY K (d.ad K))
def valY (fn : List DefY) : AlY := (true, fn.map DefY.val)
def SaysY (fa : List FaY) (fn : List DefY) (ts : List TabI) (K : PySem.W.Frag) : Prop := obsY fa fn ts K = valY fn
def obsYG (n : Nat) (fa : List FaY) (fn : List DefY) (ts : List TabI) (g : Addr → Option Obj) : AlY := obsY fa fn ts (He.frG g (He.asD g n))
def hookY (n : Nat) (fa : List FaY) (fn : List DefY) (ts : List TabI) : PySem.W.Hook where
  α := AlY
  obs := fun s => obsYG n fa fn ts s.heap.get?
  val := fun _ => valY fn
  says := fun _ h => ∃ K : PySem.W.Frag, K.In h ∧ SaysY fa fn ts K
  of := fun _ _ e => ⟨_, He.frG_in, e⟩
  keeps := fun _ _ _ ⟨K, hK, c⟩ k => ⟨K, PySem.W.Frag.In.keeps hK k, c⟩
theorem obsYG_eq {n : Nat} {fa : List FaY} {fn : List DefY} {ts : List TabI} {g : Addr → Option Obj} {s : Shared} (h : ∀ a, g a = s.heap.get? a) : obsYG n fa fn ts g = (hookY n fa fn ts).obs s := by
  have e : g = s.heap.get? := funext h
  rw [e]; rfl
section
variable {fa : List FaY} {fn : List DefY} {ts : List TabI} {K : PySem.W.Frag}
theorem SaysY.fact (c : SaysY fa fn ts K) (i : Nat) {f : FaY} (h : fa[i]? = some f := by rfl) : f K = true := by
  have c1 := (He.ba (He.ba (show ((ts.all (tabOk K) && fa.all fun f => f K) && fn.all fun d => d.ok K) = true from congrArg (fun z : AlY => z.1) c)).1).2
  exact List.all_eq_true.mp c1 f (List.mem_of_getElem? h)
theorem SaysY.tab (c : SaysY fa fn ts K) (i : Nat) {t : TabI} (h : ts[i]? = some t := by rfl) : tabOk K t = true := by
  have c1 := (He.ba (He.ba (show ((ts.all (tabOk K) && fa.all fun f => f K) && fn.all fun d => d.ok K) = true from congrArg (fun z : AlY => z.1) c)).1).1
  exact List.all_eq_true.mp c1 t (List.mem_of_getElem? h)
theorem SaysY.def_ (c : SaysY fa fn ts K) (i : Nat) {d : DefY} (h : fn[i]? = some d := by rfl) : ∃ fd, FunD K d.name d.qual d.params d.body d.scope [] [] (d.ad K) fd := by
  have c2 := (He.ba (show ((ts.all (tabOk K) && fa.all fun f => f K) && fn.all fun d => d.ok K) = true from congrArg (fun z : AlY => z.1) c)).2
  have e : fn.map (fun d => fnY K (d.ad K)) = fn.map DefY.val := congrArg (fun z : AlY => z.2) c
  have e2 : (fn.map fun d => fnY K (d.ad K))[i]? = (fn.map DefY.val)[i]? := by rw [e]
  rw [List.getElem?_map, List.getElem?_map, h] at e2
  exact DefY.funD (Option.some.inj e2) (List.all_eq_true.mp c2 d (List.mem_of_getElem? h))
end
end Tv

/-! x, y, z = a, b, c; small facts -/
namespace Tv
open PySem PySem.Spec PyProof.Rows L2
theorem lenF0 : ([] : List (Str × Val)).length ≤ 0 := Nat.le_refl 0
theorem lenF {f : Str} {v : Val} {n : Nat} : ∀ {fs : List (Str × Val)}, fs.length ≤ n → (putFv f v fs).length ≤ n + 1
  | [], _ => by show 1 ≤ n + 1; omega
  | (g, x) :: r, h => by
    have h1 : r.length + 1 ≤ n := h
    unfold putFv
    split
    · show r.length + 1 ≤ n + 1; omega
    · have := lenF (f := f) (v := v) (n := n - 1) (fs := r) (by omega)
      show (putFv f v r).length + 1 ≤ n + 1
      omega
theorem lenFB {n : Nat} {fs : List (Str × Val)} (h : fs.length ≤ n) (hn : Nat.ble n 99 = true) : fs.length < 1000 := by
  have := Nat.le_of_ble_eq_true hn
  omega
section
variable {X : Cx} {N : List Str} {sc : Scope} {k j : Nat} {E : Env} {m : Type → Type} [Mon m] {ρ : Type} {enc : ρ → Out} {rest : List Stmt} {Ks : List (List Stmt)}
theorem sx_par3 (c : Ctx X N sc k) (i j l : Nat) {x y z : Str} {a b d : Expr} {px py pz pt pos : Pos} {kt k2 pt2} {ra rb rd : m Val} {f : Val → Val → Val → m ρ} (hx : Lc N sc i x) (hy : Lc N sc j y) (hz : Lc N sc l z) (hij : i ≠ j) (hil : i ≠ l) (hjl : j ≠ l) (hi : i < E.length) (hj : j < E.length) (hl : l < E.length) (ha : Ev X E a ra) (hb : Ev X E b rb) (hd : Ev X E d rd)
    (hr : ∀ u v w, Sx X (((E.set i (.fz u)).set j (.fz v)).set l (.fz w)) rest Ks (f u v w) enc) (hs : noStars [a, b, d] = true := by rfl)
    (hw : swappedStores [.Tuple [.Name x px, .Name y py, .Name z pz] kt pt] (.Tuple [a, b, d] k2 pt2) X.env = pure (some [x, y, z])) (hs2 : swapsWithSole [.Tuple [.Name x px, .Name y py, .Name z pz] kt pt] (.Tuple [a, b, d] k2 pt2) pos.line X.env = pure false) :
    Sx X E (.Assign [.Tuple [.Name x px, .Name y py, .Name z pz] kt pt] (.Tuple [a, b, d] k2 pt2) pos :: rest) Ks (ra >>= fun u => rb >>= fun v => rd >>= fun w => f u v w) enc := by
  intro B0 S κ G σ H sat W tk D q
  obtain ⟨h1, h2⟩ := hx.n
  obtain ⟨h3, h4⟩ := hy.n
  obtain ⟨h5, h6⟩ := hz.n
  obtain ⟨s1, s2⟩ := Bool.and_eq_true_iff.mp hs
  obtain ⟨s2, s3⟩ := Bool.and_eq_true_iff.mp s2
  obtain ⟨s3, _⟩ := Bool.and_eq_true_iff.mp s3
  refine wss_of (pss_cons (ps_par3 (i := i) (j := j) (l := l) c.calm (by rw [c.n]; exact c.nd) (by rw [c.n]; exact h1) (by rw [c.n]; exact h3) (by rw [c.n]; exact h5) hij hil hjl (by rw [c.sc]; exact h2) (by rw [c.sc]; exact h4) (by rw [c.sc]; exact h6) (pa_cons pe_self (pa_cons pe_self (pa_cons pe_self pa_nil (star_of s3 _ _)) (star_of s2 _ _)) (star_of s1 _ _)) hw hs2) (pss_self (e := rest))) ?_
  refine ha B0 S κ G σ H sat.weak W tk _ (bindS sat q fun u uu κ1 G1 H1 S1 sat1 r1 hp x1 => ?_)
  refine hb B0 S1 κ1 G1 σ H1 sat1.weak W tk _ (bindS sat1 hp fun v vv κ2 G2 H2 S2 sat2 r2 h2 x2 => ?_)
  refine hd B0 S2 κ2 G2 σ H2 sat2.weak W tk _ (bindS sat2 h2 fun w ww κ3 G3 H3 S3 sat3 r3 h3 x3 => ?_)
  exact ⟨uu, vv, ww, rfl, hr u v w B0 S3 κ3 G3 _ H3 (((sat3.setFz hi ((r1.mono x2.e.pre x2.e.le).mono x3.e.pre x3.e.le)).setFz (by simpa using hj) (r2.mono x3.e.pre x3.e.le)).setFz (by simpa using hl) r3) W tk D h3⟩
end
end Tv

/-! plain evaluation of mirrors: lemmas to rewrite with, and a small logic for runs that go well -/
namespace Tv
open PySem PySem.Spec PyProof.Rows L2

/-! ### Res -/
theorem qPure {α β : Type} (a : α) (f : α → Res β) : ((Pure.pure a : Res α) >>= f) = f a := (rfl)
theorem qOk {α β : Type} (a : α) (f : α → Res β) : ((Res.ok a : Res α) >>= f) = f a := (rfl)
theorem qExn {α β : Type} (c : Str) (fs : List (Str × Val)) (f : α → Res β) : ((Res.exn c fs : Res α) >>= f) = .exn c fs := (rfl)
theorem qOf {α : Type} (r : Res α) : (Mon.of r : Res α) = r := (rfl)
theorem qP {α : Type} (a : α) : (Pure.pure a : Res α) = .ok a := (rfl)
theorem qAdd (i j : Int) : oAdd (.int i) (.int j) = .ok (.int (i + j)) := (rfl)
theorem qSub (i j : Int) : oSub (.int i) (.int j) = .ok (.int (i - j)) := (rfl)
theorem qNeg (i : Int) : oNeg (.int i) = .ok (.int (-i)) := (rfl)
theorem qLe (i j : Int) : oLe (.int i) (.int j) = .ok (.bl (decide (i ≤ j))) := (rfl)
theorem qLt (i j : Int) : oLt (.int i) (.int j) = .ok (.bl (decide (i < j))) := (rfl)
theorem qGt (i j : Int) : oGt (.int i) (.int j) = .ok (.bl (decide (j < i))) := (rfl)
theorem qGe (i j : Int) : oGe (.int i) (.int j) = .ok (.bl (decide (j ≤ i))) := (rfl)
theorem qEqI (i j : Int) : oEq (.int i) (.int j) = .ok (.bl (i == j)) := (rfl)
theorem qNeI (i j : Int) : oNe (.int i) (.int j) = .ok (.bl (!(i == j))) := (rfl)
theorem qEqT {i j : Int} (h : i = j) : oEq (.int i) (.int j) = .ok (.bl true) := by rw [qEqI, h, beq_self_eq_true]
theorem qEqF {i j : Int} (h : i ≠ j) : oEq (.int i) (.int j) = .ok (.bl false) := by rw [qEqI, beq_eq_false_iff_ne.mpr h]
theorem qBl (b : Bool) : vBl (.bl b) = .ok b := (rfl)
theorem qTruV (b : Bool) : vTruV (.bl b) = .ok b := (rfl)
theorem qTru (b : Bool) : vTru (.bl b) = .ok b := (rfl)
theorem qIp (f : Int → Int → Int) (i j : Int) : ipOf f (.int i) (.int j) = .ok (.int (f i j)) := (rfl)
theorem q2 {m : Type → Type} [Mon m] {α : Type} (a b : Val) (f : Val → Val → m α) : on2 (.tup [a, b]) f = f a b := (rfl)
theorem qItL (xs : List Val) : vIter (.lst xs) = .ok xs := (rfl)
theorem qItT (xs : List Val) : vIter (.tup xs) = .ok xs := (rfl)
theorem qSqL (xs : List Val) : vSeq (.lst xs) = .ok xs := (rfl)
theorem qSqT (xs : List Val) : vSeq (.tup xs) = .ok xs := (rfl)
theorem qLenL (xs : List Val) : fLen [.lst xs] = .ok (.int xs.length) := (rfl)
theorem qLenT (xs : List Val) : fLen [.tup xs] = .ok (.int xs.length) := (rfl)
theorem qLenS (xs : List Val) : fLen [.scr xs] = .ok (.int xs.length) := (rfl)
theorem qLenD (xs : List (Key × Val)) : fLen [.dic xs] = .ok (.int xs.length) := (rfl)
theorem qIntI (i : Int) : fInt [.int i] = .ok (.int i) := (rfl)
theorem qIxT (xs : List Val) (i : Int) : oIx (.tup xs) (.int i) = ixV xs i := (rfl)
theorem qIxL (xs : List Val) (i : Int) : oIx (.lst xs) (.int i) = ixV xs i := (rfl)
theorem qTupL (xs : List Val) : fTuple [.lst xs] = .ok (.tup xs) := (rfl)
theorem qOnly {ρ τ : Type} (st : ρ) : (onlyNx (.nx st : Fl ρ τ) : Res ρ) = .ok st := (rfl)
theorem qNxL {ρ τ : Type} (st : ρ) : (nxRt (.nx st : Fl ρ τ) : Res (ρ ⊕ τ)) = .ok (.inl st) := (rfl)
theorem qNxR {ρ τ : Type} (t : τ) : (nxRt (.rt t : Fl ρ τ) : Res (ρ ⊕ τ)) = .ok (.inr t) := (rfl)
theorem qOrL {ρ ρ1 τ : Type} (f : ρ1 → Res ρ) (g : τ → ρ) (x : ρ1) : orRt f g (.inl x) = f x := (rfl)
theorem qOrR {ρ ρ1 τ : Type} (f : ρ1 → Res ρ) (g : τ → ρ) (x : τ) : orRt f g (.inr x : ρ1 ⊕ τ) = .ok (g x) := (rfl)
theorem qNxOk {α : Type} (x : α) : (Mon.nx (Res.ok x) : Res α) = .ok x := (rfl)
theorem smallNat {k : Nat} (h : k < 18446744073709551616) : smallB (k : Int) = true := by
  unfold smallB
  rw [Bool.and_eq_true_iff]
  exact ⟨decide_eq_true (by omega), decide_eq_true (by omega)⟩
theorem smallI {k : Int} (h1 : -18446744073709551616 < k) (h2 : k < 18446744073709551616) : smallB k = true := by
  unfold smallB
  rw [Bool.and_eq_true_iff]
  exact ⟨decide_eq_true h1, decide_eq_true h2⟩
theorem qMulL {i : Int} (j : Int) (h : smallB i = true) : oMul (.int i) (.int j) = .ok (.int (i * j)) := by
  show (if (smallB i || smallB j) = true then _ else _) = _
  rw [h]; rfl
theorem qMulR (i : Int) {j : Int} (h : smallB j = true) : oMul (.int i) (.int j) = .ok (.int (i * j)) := by
  show (if (smallB i || smallB j) = true then _ else _) = _
  rw [h, Bool.or_true]; rfl
theorem qFdiv (i : Int) {j : Int} (h1 : 0 < j) (h2 : j < 1073741824) : oFdiv (.int i) (.int j) = .ok (.int (i.fdiv j)) := by
  show (if _ then _ else _) = _
  rw [if_pos ⟨by omega, by omega⟩]
theorem qMod (i : Int) {j : Int} (h1 : 0 < j) : oMod (.int i) (.int j) = .ok (.int (i % j)) := by
  show (if _ then _ else _) = _
  rw [if_pos (by omega), Int.fmod_eq_emod_of_nonneg _ (by omega)]
theorem qDivmod (i : Int) {j : Int} (h1 : 0 < j) (h2 : j < 1073741824) : fDivmod [.int i, .int j] = .ok (.tup [.int (i / j), .int (i % j)]) := by
  show (if _ then _ else _) = _
  rw [if_pos ⟨h1, h2⟩]
theorem sizeBig : 10000 ≤ sizeLine := by decide
theorem qTup {xs : List Val} (h : xs.length ≤ 10000) : vTup xs = .ok (.tup xs) := by
  unfold vTup
  rw [if_pos (Nat.le_trans h sizeBig)]
theorem qLst {xs : List Val} (h : xs.length ≤ 10000) : vLst xs = .ok (.lst xs) := by
  unfold vLst
  rw [if_pos (Nat.le_trans h sizeBig)]
theorem qRoom {xs : List Val} (h : xs.length < 10000) : roomL xs = .ok () := by
  unfold roomL
  rw [if_pos (Nat.lt_of_lt_of_le h sizeBig)]
theorem qCatL {xs ys : List Val} (h : xs.length + ys.length ≤ 10000) : oAdd (.lst xs) (.lst ys) = .ok (.lst (xs ++ ys)) := by
  show (if _ then _ else _) = _
  rw [if_pos (Nat.le_trans h sizeBig)]
theorem qCatT {xs ys : List Val} (h : xs.length + ys.length ≤ 10000) : oAdd (.tup xs) (.tup ys) = .ok (.tup (xs ++ ys)) := by
  show (if _ then _ else _) = _
  rw [if_pos (Nat.le_trans h sizeBig)]
theorem atI_nat' {α : Type} {xs : List α} {i : Nat} {x : α} (h : xs[i]? = some x) : L2.atI xs (i : Int) = some x := by
  have hl := (List.getElem?_eq_some_iff.mp h).1
  exact L2.atI_nat h
theorem qIx {xs : List Val} {i : Nat} {x : Val} (h : xs[i]? = some x) : ixV xs (i : Int) = .ok x := by
  unfold ixV
  rw [L2.atI_nat h]
theorem qRangeI {j : Int} (h1 : -(2 ^ 62) ≤ j) (h2 : j < 2 ^ 62) : vRange1 [.int j] = .ok (rangeV 0 1 j.toNat) := by
  unfold vRange1
  split
  · rename_i hh
    cases hh
    rw [if_pos ⟨h1, h2⟩]
  · rename_i hh
    exact absurd rfl (hh j)
theorem qRangeJ {i j : Int} (h1 : -(2 ^ 62) ≤ i) (h2 : i < 2 ^ 62) (h3 : -(2 ^ 62) ≤ j) (h4 : j < 2 ^ 62) : vRange2 [.int i, .int j] = .ok (rangeV i 1 (j - i).toNat) := by
  unfold vRange2
  split
  · rename_i hh
    cases hh
    rw [if_pos ⟨h1, h2, h3, h4⟩]
  · rename_i hh
    exact absurd rfl (hh i j)
theorem lim62 {n : Nat} (h : n < 1000000) : -(2 ^ 62) ≤ (n : Int) ∧ (n : Int) < 2 ^ 62 := by
  refine ⟨?_, ?_⟩
  · exact Int.le_trans (by decide) (Int.natCast_nonneg n)
  · exact Int.lt_of_lt_of_le (Int.ofNat_lt.mpr h) (by decide)
/-- the items of a range from 0 -/
def upto (n : Nat) : List Val := (List.range n).map fun i : Nat => Val.int (i : Int)
theorem rangeV_upto (n : Nat) : rangeV 0 1 n = upto n := by
  unfold rangeV upto
  refine List.map_congr_left fun i _ => ?_
  rw [Int.zero_add, Int.mul_one]
theorem qRange1 {n : Nat} (h : n < 1000000) : vRange1 [.int n] = .ok (upto n) := by
  rw [qRangeI (lim62 h).1 (lim62 h).2, Int.toNat_natCast, rangeV_upto]
theorem qRange2 {a b : Nat} (ha : a < 1000000) (hb : b < 1000000) : vRange2 [.int a, .int b] = .ok ((List.range (b - a)).map fun i : Nat => Val.int ((a + i : Nat) : Int)) := by
  rw [qRangeJ (lim62 ha).1 (lim62 ha).2 (lim62 hb).1 (lim62 hb).2, show ((b : Int) - (a : Int)).toNat = b - a from by omega]
  unfold rangeV
  congr 1
  refine List.map_congr_left fun i _ => ?_
  rw [Int.mul_one, Int.natCast_add]

/-! ### loops -/
theorem forCons {ρ τ : Type} {step : ρ → Val → Res (Fl ρ τ)} {x : Val} {xs : List Val} {st st1 : ρ} (h : step st x = .ok (.nx st1)) : forM' step (x :: xs) st = forM' step xs st1 := by
  show (step st x >>= _) = _
  rw [h]
  rfl
theorem forRt {ρ τ : Type} {step : ρ → Val → Res (Fl ρ τ)} {x : Val} {xs : List Val} {st : ρ} {t : τ} (h : step st x = .ok (.rt t)) : forM' step (x :: xs) st = .ok (.rt t) := by
  show (step st x >>= _) = _
  rw [h]
  rfl
theorem forExn {ρ τ : Type} {step : ρ → Val → Res (Fl ρ τ)} {x : Val} {xs : List Val} {st : ρ} {c : Str} {fs : List (Str × Val)} (h : step st x = .exn c fs) : forM' step (x :: xs) st = .exn c fs := by
  show (step st x >>= _) = _
  rw [h]
  rfl
theorem mapCons {f : Val → Res Val} {x y : Val} {xs ys : List Val} (h : f x = .ok y) (h2 : mapM' f xs = .ok ys) : mapM' f (x :: xs) = .ok (y :: ys) := by
  show (f x >>= _) = _
  rw [h, qOk, h2]
  rfl
theorem mapAll {f : Val → Res Val} {g : Val → Val} : ∀ {xs : List Val}, (∀ x ∈ xs, f x = .ok (g x)) → mapM' f xs = .ok (xs.map g)
  | [], _ => rfl
  | x :: xs, h => mapCons (h x List.mem_cons_self) (mapAll fun y m => h y (List.mem_cons_of_mem _ m))
theorem mapOf {α : Type} {f : Val → Res Val} {i : α → Val} {g : α → Val} : ∀ {xs : List α}, (∀ x ∈ xs, f (i x) = .ok (g x)) → mapM' f (xs.map i) = .ok (xs.map g)
  | [], _ => rfl
  | x :: xs, h => mapCons (h x List.mem_cons_self) (mapOf fun y m => h y (List.mem_cons_of_mem _ m))
theorem lcSome {f : Val → Res (Option Val)} {x y : Val} {xs ys : List Val} (h : f x = .ok (some y)) (h2 : lcM f xs = .ok ys) : lcM f (x :: xs) = .ok (y :: ys) := by
  show (f x >>= _) = _
  rw [h, qOk]
  show (lcM f xs >>= _) = _
  rw [h2]
  rfl
theorem lcNone {f : Val → Res (Option Val)} {x : Val} {xs ys : List Val} (h : f x = .ok none) (h2 : lcM f xs = .ok ys) : lcM f (x :: xs) = .ok ys := by
  show (f x >>= _) = _
  rw [h, qOk]
  show (lcM f xs >>= _) = _
  rw [h2]
  rfl
theorem lcOf {α : Type} {f : Val → Res (Option Val)} {i : α → Val} {p : α → Bool} {g : α → Val} : ∀ {xs : List α}, (∀ x ∈ xs, f (i x) = .ok (if p x = true then some (g x) else none)) → lcM f (xs.map i) = .ok ((xs.filter p).map g)
  | [], _ => rfl
  | x :: xs, h => by
    have h1 := h x List.mem_cons_self
    have h2 := lcOf (xs := xs) fun y m => h y (List.mem_cons_of_mem _ m)
    rw [List.map_cons]
    by_cases c : p x = true
    · rw [if_pos c] at h1
      rw [List.filter_cons_of_pos c, List.map_cons]
      exact lcSome h1 h2
    · rw [if_neg c] at h1
      rw [List.filter_cons_of_neg c]
      exact lcNone h1 h2
/-- a loop that goes on, with what holds after each turn -/
theorem forOk {ρ τ : Type} {step : ρ → Val → Res (Fl ρ τ)} (P : List Val → ρ → Prop) : ∀ (items done : List Val) (st : ρ),
    (∀ d x r st, done ++ items = d ++ x :: r → P d st → ∃ st', step st x = .ok (.nx st') ∧ P (d ++ [x]) st') → P done st →
    ∃ st', forM' step items st = .ok (.nx st') ∧ P (done ++ items) st'
  | [], done, st, _, p => ⟨st, rfl, by rw [List.append_nil]; exact p⟩
  | x :: xs, done, st, h, p => by
    obtain ⟨st1, e1, p1⟩ := h done x xs st rfl p
    obtain ⟨st2, e2, p2⟩ := forOk P xs (done ++ [x]) st1 (fun d y r st e q => h d y r st (by rw [← e, List.append_assoc]; rfl) q) p1
    refine ⟨st2, ?_, by rw [List.append_assoc] at p2; exact p2⟩
    rw [forCons e1]
    exact e2

/-! ### M: a run that goes well -/
def Go {α : Type} (m : M α) (S : Cells) (Q : α → Cells → Prop) : Prop := ∃ a S', m S = (.ok a, S') ∧ Q a S'
section
variable {α β : Type} {m : M α} {S : Cells} {Q : α → Cells → Prop}
theorem Go.pure {a : α} (h : Q a S) : Go (Pure.pure a : M α) S Q := ⟨a, S, rfl, h⟩
theorem Go.bind {f : α → M β} {Q : β → Cells → Prop} (h : Go m S fun a S1 => Go (f a) S1 Q) : Go (m >>= f) S Q := by
  obtain ⟨a, S1, e, b, S2, e2, q⟩ := h
  refine ⟨b, S2, ?_, q⟩
  show M.bind m f S = _
  unfold M.bind
  rw [e]
  exact e2
theorem Go.of {r : Res α} {a : α} (e : r = .ok a) (h : Q a S) : Go (Mon.of r : M α) S Q := ⟨a, S, by subst e; rfl, h⟩
theorem Go.ofB {r : Res α} {a : α} {f : α → M β} {Q : β → Cells → Prop} (e : r = .ok a) (h : Go (f a) S Q) : Go ((Mon.of r : M α) >>= f) S Q := Go.bind (Go.of e h)
theorem Go.mono {Q' : α → Cells → Prop} (h : Go m S Q) (hq : ∀ a S', Q a S' → Q' a S') : Go m S Q' := by
  obtain ⟨a, S', e, q⟩ := h
  exact ⟨a, S', e, hq a S' q⟩
theorem Go.nx (h : Go m S Q) : Go (Mon.nx m : M α) S Q := by
  obtain ⟨a, S', e, q⟩ := h
  refine ⟨a, S', ?_, q⟩
  show noExn m S = _
  unfold noExn
  rw [e]
theorem Go.cast {m' : M α} (e : m = m') (h : Go m' S Q) : Go m S Q := e ▸ h
theorem Go.ite {c : Bool} {m1 m2 : M α} (h1 : c = true → Go m1 S Q) (h2 : c = false → Go m2 S Q) : Go (if c = true then m1 else m2) S Q := by
  cases c with
  | true => exact h1 rfl
  | false => exact h2 rfl
theorem Go.run {m : M Val} {S : Cells} {Q : Val → Cells → Prop} {v : Val} (h : Go m S Q) (hq : ∀ a S', Q a S' → a = v) : ∃ S', Mon.run m S = (.ok v, S') := by
  obtain ⟨a, S', e, q⟩ := h
  have := hq a S' q
  subst this
  exact ⟨S', e⟩
/-- a loop that goes on to its end -/
theorem Go.forOn {ρ τ : Type} {step : ρ → Val → M (Fl ρ τ)} (P : List Val → ρ → Cells → Prop) : ∀ (items done : List Val) (st : ρ) (S : Cells),
    (∀ d x r st S, done ++ items = d ++ x :: r → P d st S → Go (step st x) S fun fl S' => ∃ st', fl = .nx st' ∧ P (d ++ [x]) st' S') → P done st S →
    Go (forM' step items st) S fun fl S' => ∃ st', fl = .nx st' ∧ P (done ++ items) st' S'
  | [], done, st, S, _, p => ⟨_, S, rfl, st, rfl, by rw [List.append_nil]; exact p⟩
  | x :: xs, done, st, S, h, p => by
    show Go (step st x >>= _) S _
    refine Go.bind ((h done x xs st S rfl p).mono ?_)
    rintro _ S1 ⟨st1, rfl, p1⟩
    have := Go.forOn P xs (done ++ [x]) st1 S1 (fun d y r st S e q => h d y r st S (by rw [← e, List.append_assoc]; rfl) q) p1
    rw [List.append_assoc] at this
    exact this
/-- a loop without a state of its own -/
theorem Go.forU {τ : Type} {step : Unit → Val → M (Fl Unit τ)} {P : Cells → Prop} : ∀ (items : List Val) (S : Cells), (∀ x ∈ items, ∀ S, P S → Go (step () x) S fun fl S' => fl = .nx () ∧ P S') → P S →
    Go (forM' step items ()) S fun fl S' => fl = .nx () ∧ P S'
  | [], S, _, p => ⟨_, S, rfl, rfl, p⟩
  | x :: xs, S, h, p => by
    show Go (step () x >>= _) S _
    refine Go.bind ((h x List.mem_cons_self S p).mono ?_)
    rintro _ S1 ⟨rfl, p1⟩
    exact Go.forU xs S1 (fun y m => h y (List.mem_cons_of_mem _ m)) p1
theorem Go.onlyNx {ρ τ : Type} {m : M (Fl ρ τ)} {Q : ρ → Cells → Prop} (h : Go m S fun fl S' => ∃ st, fl = .nx st ∧ Q st S') : Go (m >>= Tv.onlyNx) S Q := by
  refine Go.bind (h.mono ?_)
  rintro _ S1 ⟨st, rfl, q⟩
  exact ⟨st, S1, rfl, q⟩
theorem Go.onlyU {τ : Type} {m : M (Fl Unit τ)} {P : Cells → Prop} (h : Go m S fun fl S' => fl = .nx () ∧ P S') : Go (m >>= Tv.onlyNx) S fun _ S' => P S' := Go.onlyNx (h.mono fun _ S' q => ⟨(), q.1, q.2⟩)
theorem Go.nxRt {ρ τ : Type} {m : M (Fl ρ τ)} {Q : ρ ⊕ τ → Cells → Prop} (h : Go m S fun fl S' => ∃ st, fl = .nx st ∧ Q (.inl st) S') : Go (m >>= Tv.nxRt) S Q := by
  refine Go.bind (h.mono ?_)
  rintro _ S1 ⟨st, rfl, q⟩
  exact ⟨_, S1, rfl, q⟩
/-- a loop that never returns, and what follows -/
theorem Go.forThen {ρ τ : Type} {m : M (Fl Unit τ)} {P : Cells → Prop} {f : Unit → M ρ} {g : τ → ρ} {Q : ρ → Cells → Prop} (h : Go m S fun fl S' => fl = .nx () ∧ P S') (hf : ∀ S', P S' → Go (f ()) S' Q) : Go (m >>= Tv.nxRt >>= Tv.orRt f g) S Q := by
  refine Go.bind (Go.nxRt (h.mono fun _ S1 q => ⟨(), q.1, ?_⟩))
  exact hf S1 q.2
theorem Go.mapOn {f : Val → M Val} {P : Cells → Prop} {R : Val → Prop} : ∀ (items : List Val) (S : Cells), (∀ x ∈ items, ∀ S, P S → Go (f x) S fun y S' => R y ∧ P S') → P S →
    Go (mapM' f items) S fun ys S' => (ys.length = items.length ∧ ∀ y ∈ ys, R y) ∧ P S'
  | [], S, _, p => ⟨_, S, rfl, ⟨rfl, fun y m => nomatch m⟩, p⟩
  | x :: xs, S, h, p => by
    show Go (f x >>= _) S _
    refine Go.bind ((h x List.mem_cons_self S p).mono ?_)
    rintro y S1 ⟨r, p1⟩
    refine Go.bind ((Go.mapOn xs S1 (fun y m => h y (List.mem_cons_of_mem _ m)) p1).mono ?_)
    rintro ys S2 ⟨⟨hl, hr⟩, p2⟩
    refine ⟨_, S2, rfl, ⟨congrArg (· + 1) hl, fun z m => ?_⟩, p2⟩
    rcases List.mem_cons.mp m with e | m
    · subst e; exact r
    · exact hr z m
theorem Go.lcP {f : Val → M (Option Val)} {f' : Val → Res (Option Val)} (e : ∀ x, f x = Mon.of (f' x)) {ys : List Val} : ∀ {items : List Val} {Q : List Val → Cells → Prop}, lcM f' items = .ok ys → Q ys S → Go (lcM f items) S Q := by
  intro items
  induction items generalizing ys with
  | nil => intro Q h q; cases h; exact ⟨_, S, rfl, q⟩
  | cons x xs ih =>
    intro Q h q
    have h : (f' x >>= _) = _ := h
    show Go (f x >>= _) S _
    rw [e]
    cases c : f' x with
    | ok o =>
      rw [c, qOk] at h
      refine Go.bind (Go.of rfl ?_)
      cases d : lcM f' xs with
      | ok zs =>
        have h : (lcM f' xs >>= _) = _ := h
        rw [d, qOk] at h
        exact Go.bind (ih d (by cases h; exact Go.pure q))
      | exn _ _ =>
        have h : (lcM f' xs >>= _) = _ := h
        rw [d] at h; cases h
      | stuck =>
        have h : (lcM f' xs >>= _) = _ := h
        rw [d] at h; cases h
    | exn _ _ => rw [c] at h; cases h
    | stuck => rw [c] at h; cases h
end

theorem mOk {α β : Type} (a : α) (f : α → M β) : ((Mon.of (.ok a) : M α) >>= f) = f a := (rfl)
theorem mPure {α β : Type} (a : α) (f : α → M β) : ((Pure.pure a : M α) >>= f) = f a := (rfl)
theorem mNxOk {α : Type} (a : α) : (Mon.nx (Mon.of (.ok a) : M α) : M α) = Mon.of (.ok a) := (rfl)
theorem mNxL {ρ τ : Type} (st : ρ) : (Tv.nxRt (.nx st : Fl ρ τ) : M (ρ ⊕ τ)) = Pure.pure (.inl st) := (rfl)
theorem mNxR {ρ τ : Type} (t : τ) : (Tv.nxRt (.rt t : Fl ρ τ) : M (ρ ⊕ τ)) = Pure.pure (.inr t) := (rfl)
theorem mOrL {ρ ρ1 τ : Type} (f : ρ1 → M ρ) (g : τ → ρ) (x : ρ1) : orRt f g (.inl x) = f x := (rfl)
theorem mOrR {ρ ρ1 τ : Type} (f : ρ1 → M ρ) (g : τ → ρ) (x : τ) : orRt f g (.inr x : ρ1 ⊕ τ) = Pure.pure (g x) := (rfl)
theorem mForNil {ρ τ : Type} (step : ρ → Val → M (Fl ρ τ)) (st : ρ) : forM' step [] st = Pure.pure (.nx st) := (rfl)
theorem mForNx {ρ τ : Type} {step : ρ → Val → M (Fl ρ τ)} {x : Val} {xs : List Val} {st st1 : ρ} (h : step st x = Mon.of (.ok (.nx st1))) : forM' step (x :: xs) st = forM' step xs st1 := by
  show (step st x >>= _) = _
  rw [h]
  rfl
/-! ### cells that hold a pail -/
/-- cell n holds what draws come from -/
def Pail (n : Nat) (S : Cells) : Prop := ∃ a s t : Int, S[n]? = some (.lst [.int a, .int s, .int t]) ∧ 0 ≤ a ∧ 0 ≤ s
theorem Pail.lt {n : Nat} {S : Cells} (h : Pail n S) : n < S.length := by
  obtain ⟨a, s, t, e, _⟩ := h
  exact (List.getElem?_eq_some_iff.mp e).1
theorem goIx {n : Nat} {S : Cells} {xs : List Val} {i : Nat} {x : Val} {Q : Val → Cells → Prop} (h : S[n]? = some (.lst xs)) (hi : xs[i]? = some x) (q : Q x S) : Go (ixM (.cell n) (.int (i : Int))) S Q := by
  refine ⟨x, S, ?_, q⟩
  show (match cellL S n, asI (.int (i : Int)) with | some xs, some j => (ixV xs j, S) | _, _ => (.stuck, S)) = _
  have : cellL S n = some xs := by unfold cellL; rw [h]
  rw [this]
  show (ixV xs (i : Int), S) = _
  rw [qIx hi]
theorem goSet {n : Nat} {S : Cells} {xs : List Val} {i : Nat} {v : Val} {Q : Unit → Cells → Prop} (h : S[n]? = some (.lst xs)) (hi : i < xs.length) (hl : xs.length < 1000) (q : Q () (S.set n (.lst (xs.set i v)))) : Go (setM (.cell n) (.int (i : Int)) v) S Q := by
  refine ⟨(), _, ?_, q⟩
  show (match cellL S n, asI (.int (i : Int)) with | some xs, some k => (match L2.ixN xs.length k with | some j => (Res.ok (), S.set n (.lst (xs.set j v))) | none => (Res.stuck, S)) | _, _ => (Res.stuck, S)) = _
  have e1 : cellL S n = some xs := by unfold cellL; rw [h]
  have e2 : L2.ixN xs.length (i : Int) = some i := by
    unfold L2.ixN
    rw [if_pos (by omega), if_pos (by omega), Int.toNat_natCast]
  rw [e1]
  show (match L2.ixN xs.length (i : Int) with | some j => (Res.ok (), S.set n (.lst (xs.set j v))) | none => (.stuck, S)) = _
  rw [e2]
end Tv

/-! plain data: equality, repr -/
namespace Tv
open PySem PySem.Spec PyProof.Rows L2

/-! ### equality -/
theorem eqStr (a b : Str) : oEq (.str a) (.str b) = .ok (.bl (decide (a = b))) := by
  unfold oEq
  cases h : pdEq (.str a) (.str b) with
  | none => rfl
  | some c =>
    have h : (if SeqAt.shaped (.str a) && SeqAt.shaped (.str b) then some (PyData.eqv (.str a) (.str b)) else none) = some c := h
    split at h
    · cases h
      show Res.ok (Val.bl (PyData.eqv (.str a) (.str b))) = _
      unfold PyData.eqv
      rfl
    · cases h
theorem neStr (a b : Str) : oNe (.str a) (.str b) = .ok (.bl (!decide (a = b))) := by
  have h := eqStr a b
  unfold oEq at h
  unfold oNe
  cases c : pdEq (.str a) (.str b) with
  | none => rfl
  | some d =>
    rw [c] at h
    cases h
    rfl
theorem neSame (a : Str) : oNe (.str a) (.str a) = .ok (.bl false) := by rw [neStr, decide_eq_true rfl]; rfl
/-- equal data -/
def eqD (x y : Val) : Bool := match toPD x, toPD y with
  | some d, some e => PyData.eqv d e
  | _, _ => false
def okD (x : Val) : Bool := match toPD x with
  | some d => SeqAt.shaped d
  | none => false
theorem eqOk {x y : Val} (hx : okD x = true) (hy : okD y = true) : oEq x y = .ok (.bl (eqD x y)) ∧ oNe x y = .ok (.bl (!eqD x y)) := by
  unfold okD at hx hy
  unfold oEq oNe eqD pdEq
  cases h1 : toPD x with
  | none => rw [h1] at hx; cases hx
  | some d =>
    cases h2 : toPD y with
    | none => rw [h2] at hy; cases hy
    | some e =>
      rw [h1] at hx; rw [h2] at hy
      dsimp only at hx hy ⊢
      rw [hx, hy]
      exact ⟨rfl, rfl⟩
theorem eqD_self {x : Val} (hx : okD x = true) : eqD x x = true := by
  unfold okD at hx
  unfold eqD
  cases h1 : toPD x with
  | none => rw [h1] at hx; cases hx
  | some d =>
    rw [h1] at hx
    exact SeqAt.eqv_refl d (SeqAt.canLay_of_shaped hx)
theorem eqSame {x : Val} (hx : okD x = true) : oEq x x = .ok (.bl true) := by rw [(eqOk hx hx).1, eqD_self hx]
theorem neSameD {x : Val} (hx : okD x = true) : oNe x x = .ok (.bl false) := by rw [(eqOk hx hx).2, eqD_self hx]; rfl

/-! ### what is data -/
mutual
/-- flat data, lists and tuples of such, up to a depth -/
def dtB : Nat → Val → Bool
  | _, .non => true
  | _, .bl _ => true
  | _, .int _ => true
  | _, .str x => PyData.strOk x
  | n + 1, .lst xs => dtL n xs
  | n + 1, .tup xs => dtL n xs
  | _, _ => false
def dtL : Nat → List Val → Bool
  | _, [] => true
  | n, x :: xs => dtB n x && dtL n xs
end
mutual
theorem dtB_pd : ∀ {n : Nat} {x : Val}, dtB n x = true → ∃ d, toPD x = some d ∧ d.canLay0 = true ∧ d.depth ≤ n ∧ d.hasDict = false
  | _, .non, _ => ⟨.none, rfl, rfl, Nat.zero_le _, rfl⟩
  | _, .bl b, _ => ⟨.bool b, rfl, rfl, Nat.zero_le _, rfl⟩
  | _, .int i, _ => ⟨.int i, rfl, rfl, Nat.zero_le _, rfl⟩
  | _, .str s, h => ⟨.str s, rfl, by unfold PyData.canLay0; simpa [dtB] using h, Nat.zero_le _, rfl⟩
  | n + 1, .lst xs, h => by
    obtain ⟨ds, e, h1, h2, h3⟩ := dtL_pd (n := n) (xs := xs) (by simpa [dtB] using h)
    exact ⟨.list ds, by unfold toPD; rw [e]; rfl, by unfold PyData.canLay0; exact h1, by unfold PyData.depth; omega, by unfold PyData.hasDict; exact h3⟩
  | n + 1, .tup xs, h => by
    obtain ⟨ds, e, h1, h2, h3⟩ := dtL_pd (n := n) (xs := xs) (by simpa [dtB] using h)
    exact ⟨.tuple ds, by unfold toPD; rw [e]; rfl, by unfold PyData.canLay0; exact h1, by unfold PyData.depth; omega, by unfold PyData.hasDict; exact h3⟩
  | 0, .lst _, h => by simp [dtB] at h
  | 0, .tup _, h => by simp [dtB] at h
  | 0, .dic _, h => by simp [dtB] at h
  | _ + 1, .dic _, h => by simp [dtB] at h
  | 0, .obj _ _, h => by simp [dtB] at h
  | _ + 1, .obj _ _, h => by simp [dtB] at h
  | 0, .cell _, h => by simp [dtB] at h
  | _ + 1, .cell _, h => by simp [dtB] at h
  | 0, .scr _, h => by simp [dtB] at h
  | _ + 1, .scr _, h => by simp [dtB] at h
theorem dtL_pd : ∀ {n : Nat} {xs : List Val}, dtL n xs = true → ∃ ds, toPDs xs = some ds ∧ PyData.canLayAll0 ds = true ∧ PyData.depthAll ds ≤ n ∧ PyData.hasDictAll ds = false
  | _, [], _ => ⟨[], rfl, rfl, Nat.zero_le _, rfl⟩
  | n, x :: xs, h => by
    obtain ⟨h1, h2⟩ := Bool.and_eq_true_iff.mp (show (dtB n x && dtL n xs) = true by simpa [dtL] using h)
    obtain ⟨d, e1, a1, b1, c1⟩ := dtB_pd h1
    obtain ⟨ds, e2, a2, b2, c2⟩ := dtL_pd h2
    refine ⟨d :: ds, by unfold toPDs; rw [e1, e2], by unfold PyData.canLayAll0; rw [a1, a2]; rfl, by unfold PyData.depthAll; omega, by unfold PyData.hasDictAll; rw [c1, c2]; rfl⟩
end
theorem dt_ok {n : Nat} {x : Val} (h : dtB n x = true) (hn : n ≤ 64) : okD x = true := by
  obtain ⟨d, e, h1, h2, _⟩ := dtB_pd h
  unfold okD
  rw [e]
  show (d.canLay0 && decide (d.depth ≤ 64)) = true
  rw [h1, decide_eq_true (by omega)]; rfl
theorem dtL_all {n : Nat} : ∀ {xs : List Val}, (∀ x ∈ xs, dtB n x = true) → dtL n xs = true
  | [], _ => by unfold dtL; rfl
  | x :: xs, h => by
    unfold dtL
    rw [h x List.mem_cons_self, dtL_all fun y m => h y (List.mem_cons_of_mem _ m)]; rfl
theorem dtB_int (n : Nat) (i : Int) : dtB n (.int i) = true := by cases n <;> rfl
theorem dtB_bl (n : Nat) (b : Bool) : dtB n (.bl b) = true := by cases n <;> rfl
theorem dtB_non (n : Nat) : dtB n .non = true := by cases n <;> rfl
theorem dtB_lst {n : Nat} {xs : List Val} (h : ∀ x ∈ xs, dtB n x = true) : dtB (n + 1) (.lst xs) = true := by unfold dtB; exact dtL_all h
theorem dtB_tup {n : Nat} {xs : List Val} (h : ∀ x ∈ xs, dtB n x = true) : dtB (n + 1) (.tup xs) = true := by unfold dtB; exact dtL_all h

/-! ### equality of trees -/
mutual
/-- equality, told by the trees -/
def eqT : Val → Val → Bool
  | .non, .non => true
  | .bl a, .bl b => a == b
  | .bl a, .int j => (if a then 1 else 0) == j
  | .int i, .bl b => i == (if b then 1 else 0)
  | .int i, .int j => i == j
  | .str a, .str b => a == b
  | .lst xs, .lst ys => eqTs xs ys
  | .tup xs, .tup ys => eqTs xs ys
  | _, _ => false
def eqTs : List Val → List Val → Bool
  | [], [] => true
  | x :: xs, y :: ys => eqT x y && eqTs xs ys
  | _, _ => false
end
mutual
theorem eqv_T : ∀ {x y : Val} {d e : PyData}, toPD x = some d → toPD y = some e → PyData.eqv d e = eqT x y
  | .non, y, d, e, h1, h2 => by
    cases h1
    cases y with
    | lst ys => unfold toPD at h2; obtain ⟨_, _, rfl⟩ := Option.map_eq_some_iff.mp h2; simp [PyData.eqv, eqT]
    | tup ys => unfold toPD at h2; obtain ⟨_, _, rfl⟩ := Option.map_eq_some_iff.mp h2; simp [PyData.eqv, eqT]
    | _ => first | (cases h2; simp [PyData.eqv, eqT]) | cases h2
  | .bl a, y, d, e, h1, h2 => by
    cases h1
    cases y with
    | lst ys => unfold toPD at h2; obtain ⟨_, _, rfl⟩ := Option.map_eq_some_iff.mp h2; simp [PyData.eqv, eqT]
    | tup ys => unfold toPD at h2; obtain ⟨_, _, rfl⟩ := Option.map_eq_some_iff.mp h2; simp [PyData.eqv, eqT]
    | _ => first | (cases h2; simp [PyData.eqv, eqT]) | cases h2
  | .int a, y, d, e, h1, h2 => by
    cases h1
    cases y with
    | lst ys => unfold toPD at h2; obtain ⟨_, _, rfl⟩ := Option.map_eq_some_iff.mp h2; simp [PyData.eqv, eqT]
    | tup ys => unfold toPD at h2; obtain ⟨_, _, rfl⟩ := Option.map_eq_some_iff.mp h2; simp [PyData.eqv, eqT]
    | _ => first | (cases h2; simp [PyData.eqv, eqT]) | cases h2
  | .str a, y, d, e, h1, h2 => by
    cases h1
    cases y with
    | lst ys => unfold toPD at h2; obtain ⟨_, _, rfl⟩ := Option.map_eq_some_iff.mp h2; simp [PyData.eqv, eqT]
    | tup ys => unfold toPD at h2; obtain ⟨_, _, rfl⟩ := Option.map_eq_some_iff.mp h2; simp [PyData.eqv, eqT]
    | _ => first | (cases h2; simp [PyData.eqv, eqT]) | cases h2
  | .lst xs, y, d, e, h1, h2 => by
    unfold toPD at h1
    obtain ⟨ds, e1, rfl⟩ := Option.map_eq_some_iff.mp h1
    cases y with
    | lst ys =>
      unfold toPD at h2; obtain ⟨es, e2, rfl⟩ := Option.map_eq_some_iff.mp h2
      unfold PyData.eqv eqT
      exact eqv_Ts e1 e2
    | tup ys => unfold toPD at h2; obtain ⟨_, _, rfl⟩ := Option.map_eq_some_iff.mp h2; simp [PyData.eqv, eqT]
    | _ => first | (cases h2; simp [PyData.eqv, eqT]) | cases h2
  | .tup xs, y, d, e, h1, h2 => by
    unfold toPD at h1
    obtain ⟨ds, e1, rfl⟩ := Option.map_eq_some_iff.mp h1
    cases y with
    | tup ys =>
      unfold toPD at h2; obtain ⟨es, e2, rfl⟩ := Option.map_eq_some_iff.mp h2
      unfold PyData.eqv eqT
      exact eqv_Ts e1 e2
    | lst ys => unfold toPD at h2; obtain ⟨_, _, rfl⟩ := Option.map_eq_some_iff.mp h2; simp [PyData.eqv, eqT]
    | _ => first | (cases h2; simp [PyData.eqv, eqT]) | cases h2
  | .dic _, _, _, _, h1, _ => by cases h1
  | .obj _ _, _, _, _, h1, _ => by cases h1
  | .cell _, _, _, _, h1, _ => by cases h1
  | .scr _, _, _, _, h1, _ => by cases h1
theorem eqv_Ts : ∀ {xs ys : List Val} {ds es : List PyData}, toPDs xs = some ds → toPDs ys = some es → PyData.eqvAll ds es = eqTs xs ys
  | [], [], _, _, h1, h2 => by cases h1; cases h2; simp [PyData.eqvAll, eqTs]
  | [], y :: ys, _, _, h1, h2 => by
    cases h1
    unfold toPDs at h2
    split at h2
    · cases h2; simp [PyData.eqvAll, eqTs]
    · cases h2
  | x :: xs, [], _, _, h1, h2 => by
    cases h2
    unfold toPDs at h1
    split at h1
    · cases h1; simp [PyData.eqvAll, eqTs]
    · cases h1
  | x :: xs, y :: ys, _, _, h1, h2 => by
    unfold toPDs at h1 h2
    split at h1
    · rename_i d ds e1 e2
      cases h1
      split at h2
      · rename_i d' ds' e1' e2'
        cases h2
        unfold PyData.eqvAll eqTs
        rw [eqv_T e1 e1', eqv_Ts e2 e2']
      · cases h2
    · cases h1
end
theorem eqT_ok {x y : Val} {n m : Nat} (hx : dtB n x = true) (hy : dtB m y = true) (hn : n ≤ 64) (hm : m ≤ 64) : oEq x y = .ok (.bl (eqT x y)) ∧ oNe x y = .ok (.bl (!eqT x y)) := by
  obtain ⟨d, e1, _⟩ := dtB_pd hx
  obtain ⟨e, e2, _⟩ := dtB_pd hy
  have := eqOk (dt_ok hx hn) (dt_ok hy hm)
  have e3 : eqD x y = eqT x y := by
    unfold eqD
    rw [e1, e2]
    exact eqv_T e1 e2
  rwa [e3] at this
theorem eqTs_int : ∀ (xs ys : List Int), eqTs (xs.map .int) (ys.map .int) = decide (xs = ys)
  | [], [] => rfl
  | [], y :: ys => by rw [List.map_nil, List.map_cons]; unfold eqTs; simp
  | x :: xs, [] => by rw [List.map_nil, List.map_cons]; unfold eqTs; simp
  | x :: xs, y :: ys => by
    rw [List.map_cons, List.map_cons]
    unfold eqTs eqT
    rw [eqTs_int xs ys, Bool.eq_iff_iff]
    simp

/-! ### repr -/
mutual
def costD : PyData → Nat
  | .none => 4
  | .bool _ => 5
  | .int _ => 1921
  | .str x => (reprText x).length
  | .list xs => costAll xs + 3
  | .tuple xs => costAll xs + 3
  | .dict _ => 0
def costAll : List PyData → Nat
  | [] => 0
  | x :: xs => costD x + 2 + costAll xs
end
theorem textFrom_le : ∀ (ts : List Str) (k : Nat) (acc : Str), (textFrom k acc ts).length ≤ acc.length + (ts.map fun t : Str => t.length + 2).sum
  | [], k, acc => Nat.le_refl _
  | t :: ts, k, acc => by
    have h := textFrom_le ts (k + 1) (acc ++ (if k > 0 then ", " else "" : String) ++ t)
    have e : (acc ++ (if k > 0 then ", " else "" : String) ++ t).length ≤ acc.length + 2 + t.length := by
      rw [strLen_append, strLen_append]
      split
      · have : ((", " : String) : Str).length = 2 := rfl
        omega
      · have : (("" : String) : Str).length = 0 := rfl
        omega
    show (textFrom (k + 1) (acc ++ (if k > 0 then ", " else "" : String) ++ t) ts).length ≤ _
    rw [List.map_cons, List.sum_cons]
    omega
theorem join_le : ∀ (ts : List Str), (Str.join ", " ts).length ≤ (ts.map fun t : Str => t.length + 2).sum
  | [] => Nat.le_refl _
  | [t] => by simp [Str.join]
  | t :: u :: ts => by
    have h := join_le (u :: ts)
    show (t ++ ", " ++ Str.join ", " (u :: ts)).length ≤ _
    rw [strLen_append, strLen_append, List.map_cons, List.sum_cons]
    have : ((", " : String) : Str).length = 2 := rfl
    omega
mutual
theorem shown_le : ∀ d : PyData, d.showable = true → d.hasDict = false → d.shown.length ≤ costD d
  | .none, _, _ => by unfold PyData.shown costD; decide
  | .bool b, _, _ => by unfold PyData.shown costD; cases b <;> decide
  | .int i, h, _ => by
    unfold PyData.showable at h
    have := int_text_length_le (k := 1920) (by decide) (of_decide_eq_true h)
    unfold PyData.shown costD
    rw [PySem.ofString_length]
    exact this
  | .str x, _, _ => by unfold PyData.shown costD; exact Nat.le_refl _
  | .list xs, h, h2 => by
    unfold PyData.showable at h
    unfold PyData.hasDict at h2
    have := shownAll_le xs h h2
    unfold PyData.shown costD
    unfold listText
    rw [strLen_append]
    have h3 := textFrom_le (PyData.shownAll xs) 0 "["
    have e1 : (("[" : String) : Str).length = 1 := rfl
    have e2 : (("]" : String) : Str).length = 1 := rfl
    omega
  | .tuple xs, h, h2 => by
    unfold PyData.showable at h
    unfold PyData.hasDict at h2
    have := shownAll_le xs h h2
    unfold PyData.shown costD
    unfold tupleText
    rw [strLen_append, strLen_append]
    have h3 := join_le (PyData.shownAll xs)
    have e1 : (("(" : String) : Str).length = 1 := rfl
    split
    · have e2 : ((",)" : String) : Str).length = 2 := rfl
      omega
    · have e2 : ((")" : String) : Str).length = 1 := rfl
      omega
  | .dict _, _, h2 => by unfold PyData.hasDict at h2; cases h2
theorem shownAll_le : ∀ ds : List PyData, PyData.showableAll ds = true → PyData.hasDictAll ds = false → ((PyData.shownAll ds).map fun t : Str => t.length + 2).sum ≤ costAll ds
  | [], _, _ => by unfold PyData.shownAll costAll; exact Nat.le_refl _
  | d :: ds, h, h2 => by
    unfold PyData.showableAll at h
    unfold PyData.hasDictAll at h2
    obtain ⟨a1, a2⟩ := Bool.and_eq_true_iff.mp h
    obtain ⟨b1, b2⟩ := Bool.or_eq_false_iff.mp h2
    have h3 := shown_le d a1 b1
    have h4 := shownAll_le ds a2 b2
    unfold PyData.shownAll costAll
    rw [List.map_cons, List.sum_cons]
    omega
end
mutual
/-- a value's cost in signs -/
def cst : Val → Nat
  | .non => 4
  | .bl _ => 5
  | .int _ => 1921
  | .str x => (reprText x).length
  | .lst xs => csts xs + 3
  | .tup xs => csts xs + 3
  | _ => 0
def csts : List Val → Nat
  | [] => 0
  | x :: xs => cst x + 2 + csts xs
end
mutual
/-- its ints are not too great to be shown -/
def shB : Val → Bool
  | .int i => decide (i.natAbs.log2 < 1920)
  | .lst xs => shBs xs
  | .tup xs => shBs xs
  | _ => true
def shBs : List Val → Bool
  | [] => true
  | x :: xs => shB x && shBs xs
end
mutual
theorem cst_D : ∀ {x : Val} {d : PyData}, toPD x = some d → costD d = cst x ∧ d.showable = shB x
  | .non, _, h => by cases h; exact ⟨by simp [costD, cst], by simp [PyData.showable, shB]⟩
  | .bl b, _, h => by cases h; exact ⟨by simp [costD, cst], by simp [PyData.showable, shB]⟩
  | .int b, _, h => by cases h; exact ⟨by simp [costD, cst], by simp [PyData.showable, shB]⟩
  | .str b, _, h => by cases h; exact ⟨by simp [costD, cst], by simp [PyData.showable, shB]⟩
  | .lst xs, _, h => by
    unfold toPD at h
    obtain ⟨ds, e, rfl⟩ := Option.map_eq_some_iff.mp h
    obtain ⟨h1, h2⟩ := cst_Ds e
    exact ⟨by unfold costD cst; rw [h1], by unfold PyData.showable shB; rw [h2]⟩
  | .tup xs, _, h => by
    unfold toPD at h
    obtain ⟨ds, e, rfl⟩ := Option.map_eq_some_iff.mp h
    obtain ⟨h1, h2⟩ := cst_Ds e
    exact ⟨by unfold costD cst; rw [h1], by unfold PyData.showable shB; rw [h2]⟩
  | .dic _, _, h => by cases h
  | .obj _ _, _, h => by cases h
  | .cell _, _, h => by cases h
  | .scr _, _, h => by cases h
theorem cst_Ds : ∀ {xs : List Val} {ds : List PyData}, toPDs xs = some ds → costAll ds = csts xs ∧ PyData.showableAll ds = shBs xs
  | [], _, h => by cases h; exact ⟨by simp [costAll, csts], by simp [PyData.showableAll, shBs]⟩
  | x :: xs, _, h => by
    unfold toPDs at h
    split at h
    · rename_i d ds e1 e2
      cases h
      obtain ⟨a1, a2⟩ := cst_D e1
      obtain ⟨b1, b2⟩ := cst_Ds e2
      exact ⟨by unfold costAll csts; rw [a1, b1], by unfold PyData.showableAll shBs; rw [a2, b2]⟩
    · cases h
end
/-- repr works, and is what it is -/
def RepOk (v : Val) : Prop := ∃ s, fRepr [v] = .ok (.str s)
theorem repr_ok {v : Val} {n : Nat} (hv : (∃ xs, v = .lst xs) ∨ ∃ xs, v = .tup xs) (h : dtB n v = true) (hn : n ≤ 64) (hs : shB v = true) (hc : cst v ≤ 16000000) : RepOk v := by
  obtain ⟨d, e, h1, h2, h3⟩ := dtB_pd h
  obtain ⟨c1, c2⟩ := cst_D e
  have ok : okRepr d = true := by
    have := shown_le d (by rw [c2, hs]) h3
    have hsz : 16000000 ≤ sizeLine := by decide
    unfold okRepr
    rw [c2, hs, h3, decide_eq_true (show d.depth ≤ 64 by omega), decide_eq_true (show d.shown.length ≤ sizeLine by omega)]; rfl
  refine ⟨d.shown, ?_⟩
  rcases hv with ⟨xs, rfl⟩ | ⟨xs, rfl⟩
  · show (match toPD (.lst xs) with | some d => if okRepr d = true then Res.ok (Val.str d.shown) else .stuck | none => .stuck) = _
    rw [e]
    dsimp only
    rw [if_pos ok]
  · show (match toPD (.tup xs) with | some d => if okRepr d = true then Res.ok (Val.str d.shown) else .stuck | none => .stuck) = _
    rw [e]
    dsimp only
    rw [if_pos ok]
end Tv

/-! sums, determinants by the first row, sure tables (own plain maths) -/
namespace Mt

def sm : Nat → (Nat → Int) → Int
  | 0, _ => 0
  | n + 1, f => sm n f + f n
theorem sm_congr {f g : Nat → Int} : ∀ {n : Nat}, (∀ i, i < n → f i = g i) → sm n f = sm n g
  | 0, _ => rfl
  | n + 1, h => by
    show sm n f + f n = sm n g + g n
    rw [sm_congr fun i hi => h i (Nat.lt_succ_of_lt hi), h n (Nat.lt_succ_self n)]
theorem sm_zero : ∀ {n : Nat} {f : Nat → Int}, (∀ i, i < n → f i = 0) → sm n f = 0
  | 0, _, _ => rfl
  | n + 1, f, h => by
    show sm n f + f n = 0
    rw [sm_zero fun i hi => h i (Nat.lt_succ_of_lt hi), h n (Nat.lt_succ_self n)]
    rfl
theorem sm_add (f g : Nat → Int) : ∀ n, sm n (fun i => f i + g i) = sm n f + sm n g
  | 0 => rfl
  | n + 1 => by
    show sm n (fun i => f i + g i) + (f n + g n) = (sm n f + f n) + (sm n g + g n)
    rw [sm_add f g n]
    omega
theorem sm_mul (c : Int) (f : Nat → Int) : ∀ n, sm n (fun i => c * f i) = c * sm n f
  | 0 => by show (0 : Int) = c * 0; rw [Int.mul_zero]
  | n + 1 => by
    show sm n _ + _ = c * (sm n f + f n)
    rw [sm_mul c f n, Int.mul_add]
theorem sm_lin (a b : Int) (f g : Nat → Int) (n : Nat) : sm n (fun i => a * f i + b * g i) = a * sm n f + b * sm n g := by
  rw [sm_add, sm_mul, sm_mul]
theorem sm_head (f : Nat → Int) : ∀ n, sm (n + 1) f = f 0 + sm n fun i => f (i + 1)
  | 0 => by show (0 : Int) + f 0 = f 0 + 0; omega
  | n + 1 => by
    show sm (n + 1) f + f (n + 1) = f 0 + (sm n (fun i => f (i + 1)) + f (n + 1))
    rw [sm_head f n]
    omega
theorem sm_one {p : Nat} {c : Int} : ∀ {n : Nat}, p < n → sm n (fun i => if i = p then c else 0) = c
  | 0, h => absurd h (Nat.not_lt_zero _)
  | n + 1, h => by
    show sm n _ + (if n = p then c else 0) = c
    by_cases e : n = p
    · rw [if_pos e, sm_zero, Int.zero_add]
      intro i hi
      rw [if_neg (by omega)]
    · rw [if_neg e, sm_one (by omega), Int.add_zero]
theorem sm_swap (F : Nat → Nat → Int) (m : Nat) : ∀ n, sm n (fun i => sm m fun j => F i j) = sm m fun j => sm n fun i => F i j
  | 0 => (sm_zero fun _ _ => rfl).symm
  | n + 1 => by
    show sm n _ + sm m _ = _
    rw [sm_swap F m n, ← sm_add]
    rfl
/-- pairs that cancel -/
theorem sm_pair {F : Nat → Nat → Int} : ∀ {m : Nat}, (∀ k l, k ≤ l → l < m → F (l + 1) k = -F k l) → sm (m + 1) (fun k => sm m fun l => F k l) = 0
  | 0, _ => by rfl
  | m + 1, h => by
    have ih := sm_pair (F := F) (m := m) fun k l h1 h2 => h k l h1 (by omega)
    have e1 : sm (m + 1) (fun k => sm (m + 1) fun l => F k l) = sm (m + 1) (fun k => sm m fun l => F k l) + sm (m + 1) fun k => F k m := by
      rw [← sm_add]
      rfl
    show sm (m + 1) (fun k => sm (m + 1) fun l => F k l) + sm (m + 1) (fun l => F (m + 1) l) = 0
    rw [e1, ih, Int.zero_add, ← sm_add]
    exact sm_zero fun i hi => by rw [h i m (by omega) (by omega)]; omega
/-! ### determinants -/
abbrev Mx := Nat → Nat → Int
def sg (k : Nat) : Int := if k % 2 = 0 then 1 else -1
def sk (k j : Nat) : Nat := if j < k then j else j + 1
def mi (k : Nat) (A : Mx) : Mx := fun i j => A (i + 1) (sk k j)
def det : Nat → Mx → Int
  | 0, _ => 1
  | n + 1, A => sm (n + 1) fun k => sg k * A 0 k * det n (mi k A)
theorem sg_succ (k : Nat) : sg (k + 1) = -sg k := by
  unfold sg
  by_cases h : k % 2 = 0
  · rw [if_pos h, if_neg (by omega)]
  · rw [if_neg h, if_pos (by omega)]; rfl
theorem sk_lt {k j n : Nat} (h : j < n) : sk k j < n + 1 := by
  unfold sk
  split <;> omega
theorem det_congr : ∀ {n : Nat} {A B : Mx}, (∀ i j, i < n → j < n → A i j = B i j) → det n A = det n B
  | 0, _, _, _ => rfl
  | n + 1, A, B, h => sm_congr fun k hk => by
    rw [h 0 k (by omega) hk, show det n (mi k A) = det n (mi k B) from det_congr (n := n) fun i j hi hj => h (i + 1) (sk k j) (by omega) (sk_lt hj)]
/-- linear in a row -/
theorem det_lin (a b : Int) : ∀ {n : Nat} (p : Nat) {A B C : Mx}, p < n → (∀ i j, i < n → i ≠ p → C i j = A i j ∧ C i j = B i j) → (∀ j, C p j = a * A p j + b * B p j) → det n C = a * det n A + b * det n B
  | 0, p, _, _, _, h, _, _ => absurd h (Nat.not_lt_zero _)
  | n + 1, 0, A, B, C, _, h1, h2 => by
    unfold det
    rw [← sm_lin]
    refine sm_congr fun k hk => ?_
    have e1 : det n (mi k A) = det n (mi k C) := det_congr fun i j hi hj => ((h1 (i + 1) _ (by omega) (by omega)).1).symm
    have e2 : det n (mi k B) = det n (mi k C) := det_congr fun i j hi hj => ((h1 (i + 1) _ (by omega) (by omega)).2).symm
    rw [e1, e2, h2 k]
    grind
  | n + 1, p + 1, A, B, C, hp, h1, h2 => by
    unfold det
    rw [← sm_lin]
    refine sm_congr fun k hk => ?_
    have e := det_lin a b (n := n) p (A := mi k A) (B := mi k B) (C := mi k C) (by omega) (fun i j hi hn => h1 (i + 1) _ (by omega) (by omega)) (fun j => h2 _)
    rw [e, ← (h1 0 k (by omega) (by omega)).1, ← (h1 0 k (by omega) (by omega)).2]
    grind
theorem sk_sk {k l : Nat} (h : k ≤ l) (j : Nat) : sk k (sk l j) = sk (l + 1) (sk k j) := by
  unfold sk
  repeat' split
  all_goals omega
theorem sk_le {k l : Nat} (h : k ≤ l) : sk k l = l + 1 := by
  unfold sk
  rw [if_neg (by omega)]
theorem sk_gt {k l : Nat} (h : k ≤ l) : sk (l + 1) k = k := by
  unfold sk
  rw [if_pos (by omega)]
/-- two equal rows, neighbours -/
theorem det_adj : ∀ {n : Nat} (p : Nat) {A : Mx}, p + 1 < n → (∀ j, A p j = A (p + 1) j) → det n A = 0
  | 0, p, _, h, _ => absurd h (Nat.not_lt_zero _)
  | n + 1, p + 1, A, hp, h => sm_zero fun k hk => by
    rw [det_adj (n := n) p (A := mi k A) (by omega) (fun j => h _), Int.mul_zero]
  | 1, 0, _, h, _ => absurd h (by omega)
  | n + 2, 0, A, _, h => by
    let F : Nat → Nat → Int := fun k l => sg k * A 0 k * (sg l * A 1 (sk k l) * det n (mi l (mi k A)))
    have e : det (n + 2) A = sm (n + 1 + 1) (fun k => sm (n + 1) fun l => F k l) := by
      show sm (n + 2) (fun k => sg k * A 0 k * det (n + 1) (mi k A)) = _
      refine sm_congr fun k hk => ?_
      show sg k * A 0 k * sm (n + 1) (fun l => sg l * mi k A 0 l * det n (mi l (mi k A))) = _
      rw [← sm_mul]
      rfl
    rw [e]
    refine sm_pair fun k l hk hl => ?_
    show sg (l + 1) * A 0 (l + 1) * (sg k * A 1 (sk (l + 1) k) * det n (mi k (mi (l + 1) A))) = -(sg k * A 0 k * (sg l * A 1 (sk k l) * det n (mi l (mi k A))))
    have ed : det n (mi k (mi (l + 1) A)) = det n (mi l (mi k A)) := det_congr fun i j hi hj => by
      show A (i + 1 + 1) (sk (l + 1) (sk k j)) = A (i + 1 + 1) (sk k (sk l j))
      rw [sk_sk hk]
    have h : ∀ j, A 0 j = A 1 j := h
    rw [ed, sk_le hk, sk_gt hk, sg_succ, ← h k, ← h (l + 1)]
    grind
/-- the matrix with row p in the place of q's too -/
def setR (A : Mx) (q : Nat) (r : Nat → Int) : Mx := fun i j => if i = q then r j else A i j
theorem setR_at (A : Mx) (q : Nat) (r : Nat → Int) (j : Nat) : setR A q r q j = r j := if_pos rfl
theorem setR_ne (A : Mx) {q i : Nat} (r : Nat → Int) (j : Nat) (h : i ≠ q) : setR A q r i j = A i j := if_neg h
theorem det_set (a b : Int) {n q : Nat} (A : Mx) (r s : Nat → Int) (h : q < n) : det n (setR A q fun j => a * r j + b * s j) = a * det n (setR A q r) + b * det n (setR A q s) :=
  det_lin a b q h (fun i j _ hn => by rw [setR_ne _ _ _ hn, setR_ne _ _ _ hn, setR_ne _ _ _ hn]; exact ⟨rfl, rfl⟩) fun j => by rw [setR_at, setR_at, setR_at]
/-- neighbours exchanged -/
theorem det_swap {n q : Nat} (A : Mx) (r s : Nat → Int) (h : q + 1 < n) : det n (setR (setR A q r) (q + 1) s) = -det n (setR (setR A q s) (q + 1) r) := by
  let u : Nat → Int := fun j => 1 * r j + 1 * s j
  have e0 : det n (setR (setR A q u) (q + 1) u) = 0 := det_adj q h fun j => by
    rw [setR_at, setR_ne _ _ _ (by omega), setR_at]
  have sw : ∀ x y : Nat → Int, det n (setR (setR A q x) (q + 1) y) = det n (setR (setR A (q + 1) y) q x) := fun x y => det_congr fun i j hi hj => by
    unfold setR
    by_cases h1 : i = q + 1
    · rw [if_pos h1, if_neg (by omega), if_pos h1]
    · rw [if_neg h1, if_neg h1]
  have z : ∀ x : Nat → Int, det n (setR (setR A q x) (q + 1) x) = 0 := fun x => det_adj q h fun j => by
    rw [setR_at, setR_ne _ _ _ (by omega), setR_at]
  have e1 := det_set 1 1 (setR A q u) r s (show q + 1 < n from h)
  rw [sw u r, sw u s] at e1
  have e2 := det_set 1 1 (setR A (q + 1) r) r s (show q < n by omega)
  have e3 := det_set 1 1 (setR A (q + 1) s) r s (show q < n by omega)
  rw [← sw, ← sw, ← sw] at e2 e3
  rw [z r] at e2
  rw [z s] at e3
  rw [← sw, ← sw, e2, e3] at e1
  have e1 : det n (setR (setR A q u) (q + 1) u) = _ := e1
  rw [e0] at e1
  omega
theorem setR_self {n : Nat} (A : Mx) {q : Nat} {r : Nat → Int} (h : ∀ j, r j = A q j) : det n (setR A q r) = det n A := det_congr fun i j _ _ => by
  unfold setR
  split
  · rename_i e; rw [h, e]
  · rfl
/-- row 0 again somewhere -/
theorem det_zero0 {n : Nat} : ∀ (q : Nat) {A : Mx}, q + 1 < n → (∀ j, A (q + 1) j = A 0 j) → det n A = 0
  | 0, A, hq, h => det_adj 0 hq fun j => (h j).symm
  | q + 1, A, hq, h => by
    have e := det_swap (n := n) (q := q + 1) A (A (q + 1)) (A (q + 2)) hq
    have e1 : det n (setR (setR A (q + 1) (A (q + 1))) (q + 2) (A (q + 2))) = det n A := by
      rw [setR_self, setR_self]
      · exact fun _ => rfl
      · exact fun j => (setR_ne _ _ _ (by omega)).symm
    have e2 : det n (setR (setR A (q + 1) (A (q + 2))) (q + 2) (A (q + 1))) = 0 := det_zero0 q (by omega) fun j => by
      rw [setR_ne _ _ _ (by omega), setR_at, setR_ne _ _ _ (by omega), setR_ne _ _ _ (by omega)]
      exact h j
    rw [← e1, e, e2]
    rfl
/-- a column of noughts -/
theorem det_col0 : ∀ {n : Nat} {A : Mx}, 0 < n → (∀ i, i < n → A i 0 = 0) → det n A = 0
  | 0, _, h, _ => absurd h (Nat.lt_irrefl _)
  | n + 1, A, _, h => sm_zero fun k hk => by
    cases k with
    | zero => rw [h 0 (by omega), Int.mul_zero, Int.zero_mul]
    | succ k =>
      rw [det_col0 (n := n) (A := mi (k + 1) A) (by omega) fun i hi => ?_, Int.mul_zero]
      show A (i + 1) (sk (k + 1) 0) = 0
      unfold sk
      rw [if_pos (by omega)]
      exact h _ (by omega)
/-! ### what is left behind the first place -/
def sch (A : Mx) : Mx := fun i j => A 0 0 * A (i + 1) (j + 1) - A (i + 1) 0 * A 0 (j + 1)
/-- the first t rows behind the first one cleared -/
def clr (A : Mx) (t : Nat) : Mx := fun i j => if 1 ≤ i ∧ i ≤ t then A 0 0 * A i j - A i 0 * A 0 j else A i j
theorem det_clr {n : Nat} (A : Mx) : ∀ t, t ≤ n → det (n + 1) (clr A t) = A 0 0 ^ t * det (n + 1) A
  | 0, _ => by
    rw [Int.pow_zero, Int.one_mul]
    exact det_congr fun i j _ _ => if_neg (by omega)
  | t + 1, h => by
    have e : det (n + 1) (clr A (t + 1)) = det (n + 1) (setR (clr A t) (t + 1) fun j => A 0 0 * A (t + 1) j + (-A (t + 1) 0) * A 0 j) := det_congr fun i j _ _ => by
      simp only [clr, setR]
      by_cases h1 : i = t + 1
      · rw [if_pos (by omega), if_pos h1, h1]
        grind
      · rw [if_neg h1]
        by_cases h2 : 1 ≤ i ∧ i ≤ t
        · rw [if_pos (by omega), if_pos h2]
        · rw [if_neg (by omega), if_neg h2]
    have z : det (n + 1) (setR (clr A t) (t + 1) (A 0)) = 0 := det_zero0 t (by omega) fun j => by
      rw [setR_at, setR_ne _ _ _ (by omega)]
      unfold clr
      rw [if_neg (by omega)]
    have s : det (n + 1) (setR (clr A t) (t + 1) (A (t + 1))) = det (n + 1) (clr A t) := setR_self _ fun j => by
      unfold clr
      rw [if_neg (by omega)]
    rw [e, det_set _ _ _ _ _ (by omega), z, s, det_clr A t (by omega), Int.pow_succ]
    grind
theorem det_sch {n : Nat} (A : Mx) : A 0 0 ^ n * det (n + 1) A = A 0 0 * det n (sch A) := by
  rw [← det_clr A n (Nat.le_refl n)]
  show sm (n + 1) _ = _
  rw [sm_head, sm_zero, Int.add_zero]
  · have e : det n (mi 0 (clr A n)) = det n (sch A) := det_congr fun i j hi hj => by
      show clr A n (i + 1) (sk 0 j) = _
      unfold clr sk sch
      rw [if_pos (by omega), if_neg (by omega)]
    rw [e]
    show sg 0 * clr A n 0 0 * det n (sch A) = _
    unfold clr
    rw [if_neg (by omega)]
    show 1 * A 0 0 * _ = _
    rw [Int.one_mul]
  · intro k hk
    rw [det_col0 (by omega) fun i hi => ?_, Int.mul_zero]
    show clr A n (i + 1) (sk (k + 1) 0) = 0
    unfold sk
    rw [if_pos (by omega)]
    unfold clr
    rw [if_pos (by omega), Int.mul_comm, Int.sub_self]
/-! ### sure tables -/
def sure (n : Nat) (A : Mx) : Prop := ∀ m, 1 ≤ m → m ≤ n → 0 < det m A
def bil (n : Nat) (A : Mx) (x y : Nat → Int) : Int := sm n fun i => x i * sm n fun j => A i j * y j
def pd (n : Nat) (A : Mx) : Prop := ∀ x : Nat → Int, (∃ i, i < n ∧ x i ≠ 0) → 0 < bil n A x x
def symm (n : Nat) (A : Mx) : Prop := ∀ i j, i < n → j < n → A i j = A j i
theorem det_one (A : Mx) : det 1 A = A 0 0 := by
  show (0 : Int) + sg 0 * A 0 0 * 1 = _
  show (0 : Int) + 1 * A 0 0 * 1 = _
  omega
theorem pow_pos' {a : Int} (h : 0 < a) : ∀ n : Nat, 0 < a ^ n
  | 0 => by rw [Int.pow_zero]; decide
  | n + 1 => by rw [Int.pow_succ]; exact Int.mul_pos (pow_pos' h n) h
theorem pos_of_mul {a b : Int} (ha : 0 < a) (h : 0 < a * b) : 0 < b := by
  by_cases hb : 0 < b
  · exact hb
  · have := Int.mul_le_mul_of_nonneg_left (show b ≤ 0 by omega) (Int.le_of_lt ha)
    rw [Int.mul_zero] at this
    omega
theorem sure_succ {n : Nat} (A : Mx) : sure (n + 1) A ↔ 0 < A 0 0 ∧ sure n (sch A) := by
  constructor
  · intro h
    have h0 := h 1 (Nat.le_refl _) (by omega)
    rw [det_one] at h0
    refine ⟨h0, fun m h1 h2 => ?_⟩
    have e := det_sch (n := m) A
    have p := Int.mul_pos (pow_pos' h0 m) (h (m + 1) (by omega) (by omega))
    rw [e] at p
    exact pos_of_mul h0 p
  · rintro ⟨h0, h⟩ m h1 h2
    cases m with
    | zero => omega
    | succ m =>
      have e := det_sch (n := m) A
      cases m with
      | zero => rw [det_one]; exact h0
      | succ m =>
        have p := Int.mul_pos h0 (h (m + 1) (by omega) (by omega))
        rw [← e] at p
        exact pos_of_mul (pow_pos' h0 _) p
theorem symm_sch {n : Nat} {A : Mx} (h : symm (n + 1) A) : symm n (sch A) := fun i j hi hj => by
  unfold sch
  rw [h (i + 1) (j + 1) (by omega) (by omega), h (i + 1) 0 (by omega) (by omega), h 0 (j + 1) (by omega) (by omega), Int.mul_comm (A 0 (i + 1))]
def tl (x : Nat → Int) : Nat → Int := fun i => x (i + 1)
/-- a times the value: a square, and the value behind the first place -/
theorem bil_sch {n : Nat} {A : Mx} (h : symm (n + 1) A) (x : Nat → Int) : A 0 0 * bil (n + 1) A x x = sm (n + 1) (fun j => A 0 j * x j) * sm (n + 1) (fun j => A 0 j * x j) + bil n (sch A) (tl x) (tl x) := by
  have e1 : sm (n + 1) (fun j => A 0 j * x j) = A 0 0 * x 0 + sm n fun j => A 0 (j + 1) * x (j + 1) := sm_head _ _
  generalize hL : sm n (fun j => A 0 (j + 1) * x (j + 1)) = L at e1
  have e2 : bil (n + 1) A x x = x 0 * (A 0 0 * x 0 + L) + sm n fun i => x (i + 1) * (A (i + 1) 0 * x 0 + sm n fun j => A (i + 1) (j + 1) * x (j + 1)) := by
    unfold bil
    rw [sm_head, e1]
    congr 1
    exact sm_congr fun i hi => by rw [sm_head]
  have e3 : sm n (fun i => x (i + 1) * (A (i + 1) 0 * x 0 + sm n fun j => A (i + 1) (j + 1) * x (j + 1))) = x 0 * L + sm n fun i => x (i + 1) * sm n fun j => A (i + 1) (j + 1) * x (j + 1) := by
    rw [← hL, ← sm_mul, ← sm_add]
    refine sm_congr fun i hi => ?_
    rw [h (i + 1) 0 (by omega) (by omega)]
    grind
  have e4 : bil n (sch A) (tl x) (tl x) = A 0 0 * sm n (fun i => x (i + 1) * sm n fun j => A (i + 1) (j + 1) * x (j + 1)) - L * L := by
    have : ∀ i, i < n → tl x i * sm n (fun j => sch A i j * tl x j) = A 0 0 * (x (i + 1) * sm n fun j => A (i + 1) (j + 1) * x (j + 1)) + (-L) * (A 0 (i + 1) * x (i + 1)) := fun i hi => by
      have : sm n (fun j => sch A i j * tl x j) = A 0 0 * sm n (fun j => A (i + 1) (j + 1) * x (j + 1)) + (-A (i + 1) 0) * L := by
        rw [← hL, ← sm_lin]
        refine sm_congr fun j hj => ?_
        unfold sch tl
        grind
      rw [this, h (i + 1) 0 (by omega) (by omega)]
      unfold tl
      grind
    unfold bil
    rw [sm_congr this, sm_lin, hL]
    grind
  rw [e2, e3, e1, e4]
  grind
theorem sq_nonneg (a : Int) : 0 ≤ a * a := by
  rcases Int.le_total 0 a with h | h
  · exact Int.mul_nonneg h h
  · exact Int.mul_nonneg_of_nonpos_of_nonpos h h
theorem sq_pos {a : Int} (h : a ≠ 0) : 0 < a * a := by
  rcases Int.lt_or_gt_of_ne h with h | h
  · exact Int.mul_pos_of_neg_of_neg h h
  · exact Int.mul_pos h h
theorem bil_zero {n : Nat} {A : Mx} {x y : Nat → Int} (h : ∀ i, i < n → x i = 0) : bil n A x y = 0 := sm_zero fun i hi => by rw [h i hi, Int.zero_mul]
theorem pd_succ {n : Nat} {A : Mx} (h : symm (n + 1) A) : pd (n + 1) A ↔ 0 < A 0 0 ∧ pd n (sch A) := by
  constructor
  · intro p
    have h0 : 0 < A 0 0 := by
      have q := p (fun i => if i = 0 then 1 else 0) ⟨0, by omega, by decide⟩
      have e : bil (n + 1) A (fun i => if i = 0 then 1 else 0) (fun i => if i = 0 then 1 else 0) = A 0 0 := by
        have e1 : ∀ i, sm (n + 1) (fun j => A i j * if j = 0 then 1 else 0) = A i 0 := fun i => by
          rw [← sm_one (n := n + 1) (p := 0) (c := A i 0) (by omega)]
          refine sm_congr fun j hj => ?_
          by_cases z : j = 0
          · rw [if_pos z, if_pos z, z, Int.mul_one]
          · rw [if_neg z, if_neg z, Int.mul_zero]
        unfold bil
        rw [← sm_one (n := n + 1) (p := 0) (c := A 0 0) (by omega)]
        refine sm_congr fun i hi => ?_
        rw [e1]
        show (if i = 0 then (1 : Int) else 0) * A i 0 = _
        by_cases z : i = 0
        · rw [if_pos z, if_pos z, z, Int.one_mul]
        · rw [if_neg z, if_neg z, Int.zero_mul]
      rw [e] at q
      exact q
    refine ⟨h0, fun y hy => ?_⟩
    obtain ⟨i, hi, hn⟩ := hy
    -- the point with a times y behind, and what makes the first sum 0
    let L : Int := sm n fun j => A 0 (j + 1) * y j
    let x : Nat → Int := fun i => match i with
      | 0 => -L
      | i + 1 => A 0 0 * y i
    have nz : x (i + 1) ≠ 0 := by
      show A 0 0 * y i ≠ 0
      intro z
      rcases Int.mul_eq_zero.mp z with z | z
      · omega
      · exact hn z
    have q := p x ⟨i + 1, by omega, nz⟩
    have e := bil_sch h x
    have e1 : sm (n + 1) (fun j => A 0 j * x j) = 0 := by
      rw [sm_head]
      show A 0 0 * -L + sm n (fun i => A 0 (i + 1) * (A 0 0 * y i)) = 0
      have : sm n (fun i => A 0 (i + 1) * (A 0 0 * y i)) = A 0 0 * L := by
        rw [← sm_mul]
        exact sm_congr fun i _ => by rw [Int.mul_left_comm]
      rw [this]
      grind
    have e2 : bil n (sch A) (tl x) (tl x) = A 0 0 * (A 0 0 * bil n (sch A) y y) := by
      unfold bil
      rw [← sm_mul, ← sm_mul]
      refine sm_congr fun i _ => ?_
      have : sm n (fun j => sch A i j * tl x j) = A 0 0 * sm n fun j => sch A i j * y j := by
        rw [← sm_mul]
        exact sm_congr fun j _ => by show sch A i j * (A 0 0 * y j) = _; rw [Int.mul_left_comm]
      rw [this]
      show A 0 0 * y i * _ = _
      grind
    rw [e1, e2, Int.zero_mul, Int.zero_add] at e
    have q2 := Int.mul_pos h0 q
    rw [e] at q2
    exact pos_of_mul h0 (pos_of_mul h0 q2)
  · rintro ⟨h0, p⟩ x ⟨i, hi, hn⟩
    have e := bil_sch h x
    refine pos_of_mul h0 ?_
    rw [e]
    by_cases c : ∃ j, j < n ∧ tl x j ≠ 0
    · have := p (tl x) c
      have := sq_nonneg (sm (n + 1) fun j => A 0 j * x j)
      omega
    · have c : ∀ j, j < n → tl x j = 0 := fun j hj => Classical.byContradiction fun z => c ⟨j, hj, z⟩
      rw [bil_zero c, Int.add_zero]
      refine sq_pos ?_
      rw [sm_head, sm_zero fun j hj => by show A 0 (j + 1) * tl x j = 0; rw [c j hj, Int.mul_zero], Int.add_zero]
      have x0 : x 0 ≠ 0 := by
        cases i with
        | zero => exact hn
        | succ i => exact absurd (c i (by omega)) hn
      intro z
      rcases Int.mul_eq_zero.mp z with z | z
      · omega
      · exact x0 z
/-- a table is sure exactly if its values are above 0 -/
theorem sure_pd : ∀ {n : Nat} {A : Mx}, symm n A → (sure n A ↔ pd n A)
  | 0, A, _ => ⟨fun _ x ⟨i, h, _⟩ => absurd h (Nat.not_lt_zero _), fun _ m h1 h2 => by omega⟩
  | n + 1, A, h => by
    rw [sure_succ, pd_succ h, sure_pd (symm_sch h)]
end Mt

/-! slices, sums in loops, tables as lists of lists -/
namespace Tv
open PySem PySem.Spec PyProof.Rows L2 Mt

theorem cutTake {α : Type} (xs : List α) (k : Nat) : cutA xs none (some (k : Int)) = xs.take k := by
  unfold cutA
  rw [HT.sIx_nat, HT.sIx_none, List.drop_zero, Nat.sub_zero]
  by_cases h : k ≤ xs.length
  · rw [Nat.min_eq_left h]
  · rw [Nat.min_eq_right (by omega), List.take_length, List.take_of_length_le (by omega)]
theorem cutDrop {α : Type} (xs : List α) (k : Nat) : cutA xs (some (k : Int)) none = xs.drop k := by
  unfold cutA
  rw [HT.sIx_nat, HT.sIx_none]
  by_cases h : k ≤ xs.length
  · rw [Nat.min_eq_left h, List.take_of_length_le (by rw [List.length_drop]; omega)]
  · rw [Nat.min_eq_right (by omega), Nat.sub_self, List.take_zero, List.drop_eq_nil_of_le (by omega)]
theorem qSlTt (xs : List Val) (k : Nat) : oSl (.tup xs) none (some (k : Int)) = .ok (.tup (xs.take k)) := by
  show Res.ok (Val.tup _) = _
  rw [cutTake]
theorem qSlTd (xs : List Val) (k : Nat) : oSl (.tup xs) (some (k : Int)) none = .ok (.tup (xs.drop k)) := by
  show Res.ok (Val.tup _) = _
  rw [cutDrop]
theorem qSlLt (xs : List Val) (k : Nat) : oSl (.lst xs) none (some (k : Int)) = .ok (.lst (xs.take k)) := by
  show Res.ok (Val.lst _) = _
  rw [cutTake]
theorem qSlLd (xs : List Val) (k : Nat) : oSl (.lst xs) (some (k : Int)) none = .ok (.lst (xs.drop k)) := by
  show Res.ok (Val.lst _) = _
  rw [cutDrop]
theorem qAsInt (i : Int) : asInt (.int i) = .ok (some i) := (rfl)
theorem ints_map : ∀ xs : List Int, intsV (xs.map Val.int) = some xs
  | [] => rfl
  | x :: xs => by
    show (intsV (xs.map Val.int)).map (x :: ·) = _
    rw [ints_map xs]; rfl
theorem bools_map : ∀ xs : List Bool, boolsV (xs.map Val.bl) = some xs
  | [] => rfl
  | x :: xs => by
    show (boolsV (xs.map Val.bl)).map (x :: ·) = _
    rw [bools_map xs]; rfl
theorem qAll (bs : List Bool) : fAll [.lst (bs.map Val.bl)] = .ok (.bl (bs.all id)) := by
  show (match boolsV (bs.map Val.bl) with | some bs => Res.ok (Val.bl (bs.all id)) | none => .stuck) = _
  rw [bools_map]
theorem qSum (xs : List Int) : fSum [.lst (xs.map Val.int)] = .ok (.int xs.sum) := by
  show (match intsV (xs.map Val.int) with | some ns => Res.ok (Val.int ns.sum) | none => .stuck) = _
  rw [ints_map]
/-- a loop that sums up -/
theorem sumLoop {τ : Type} {step : Val → Val → Res (Fl Val τ)} : ∀ {items : List Val} {f : Nat → Int} {s : Int}, (∀ k x t, items[k]? = some x → step (.int t) x = .ok (.nx (.int (t + f k)))) → forM' step items (.int s) = .ok (.nx (.int (s + sm items.length f)))
  | [], f, s, _ => by show Res.ok (Fl.nx (Val.int s)) = .ok (.nx (.int (s + 0))); rw [Int.add_zero]
  | x :: xs, f, s, h => by
    rw [forCons (h 0 x s rfl), sumLoop (items := xs) (f := fun k => f (k + 1)) fun k y t hk => h (k + 1) y t hk]
    show _ = Res.ok (Fl.nx (Val.int (s + sm (xs.length + 1) f)))
    rw [sm_head, Int.add_assoc]
theorem enum0_at {xs : List Val} {i k : Nat} {y : Val} (h : (enum0 i xs)[k]? = some y) : ∃ x, xs[k]? = some x ∧ y = .tup [.int ((i + k : Nat) : Int), x] := by
  have hl := (List.getElem?_eq_some_iff.mp h).1
  rw [enum0_length] at hl
  refine ⟨xs[k], List.getElem?_eq_getElem hl, ?_⟩
  have := enum0_get (i := i) (List.getElem?_eq_getElem hl)
  rw [h] at this
  exact Option.some.inj this
theorem map_at {α : Type} {g : α → Val} {xs : List α} {k : Nat} {y : Val} (h : (xs.map g)[k]? = some y) : ∃ x, xs[k]? = some x ∧ y = g x := by
  rw [List.getElem?_map] at h
  obtain ⟨x, e, r⟩ := Option.map_eq_some_iff.mp h
  exact ⟨x, e, r.symm⟩
theorem upto_at {n k : Nat} {y : Val} (h : (upto n)[k]? = some y) : k < n ∧ y = .int (k : Int) := by
  obtain ⟨x, e, r⟩ := map_at h
  obtain ⟨hl, q⟩ := List.getElem?_eq_some_iff.mp e
  rw [List.length_range] at hl
  rw [List.getElem_range] at q
  exact ⟨hl, by rw [r, q]⟩
theorem upto_len (n : Nat) : (upto n).length = n := by unfold upto; rw [List.length_map, List.length_range]
theorem getI {r : List Int} {k : Nat} (h : k < r.length) : (r.map Val.int)[k]? = some (.int (r.getD k 0)) := by
  rw [List.getElem?_map, List.getElem?_eq_getElem h, List.getD_eq_getElem?_getD, List.getElem?_eq_getElem h]
  rfl
theorem Go.eq {α : Type} {m : M α} {S S' : Cells} {a : α} {Q : α → Cells → Prop} (h : m S = (.ok a, S')) (q : Q a S') : Go m S Q := ⟨a, S', h, q⟩
theorem mMapOf {α : Type} {f : Val → M Val} {i : α → Val} {g : α → Val} {S : Cells} : ∀ {xs : List α}, (∀ x ∈ xs, f (i x) S = (.ok (g x), S)) → mapM' f (xs.map i) S = (.ok (xs.map g), S)
  | [], _ => rfl
  | x :: xs, h => by
    show M.bind (f (i x)) (fun y => M.bind (mapM' f (xs.map i)) fun ys => Pure.pure (y :: ys)) S = _
    unfold M.bind
    rw [h x List.mem_cons_self]
    show M.bind (mapM' f (xs.map i)) (fun ys => Pure.pure (g x :: ys)) S = _
    unfold M.bind
    rw [mMapOf fun y hy => h y (List.mem_cons_of_mem _ hy)]
    rfl
/-! ### tables -/
abbrev vr (r : List Int) : Val := .tup (r.map Val.int)
abbrev vl (r : List Int) : Val := .lst (r.map Val.int)
abbrev tt (rows : List (List Int)) : Val := .tup (rows.map vr)
abbrev ll (rows : List (List Int)) : Val := .lst (rows.map vl)
def mx (rows : List (List Int)) : Mx := fun i j => (rows.getD i []).getD j 0
/-- n rows of n places -/
structure Sqr (n : Nat) (rows : List (List Int)) : Prop where
  len : rows.length = n
  all : ∀ r ∈ rows, r.length = n
def cut (k : Nat) (r : List Int) : List Int := r.take k ++ r.drop (k + 1)
theorem getD_in {α : Type} {xs : List α} {i : Nat} {d : α} (h : i < xs.length) : xs.getD i d ∈ xs := by
  rw [List.getD_eq_getElem?_getD, List.getElem?_eq_getElem h]
  exact List.getElem_mem h
theorem getD_map' {α β : Type} {g : α → β} {xs : List α} {i : Nat} {a : α} {b : β} (h : i < xs.length) : (xs.map g).getD i b = g (xs.getD i a) := by
  rw [List.getD_eq_getElem?_getD, List.getElem?_map, List.getD_eq_getElem?_getD, List.getElem?_eq_getElem h]
  rfl
theorem Sqr.row {n : Nat} {rows : List (List Int)} (h : Sqr n rows) {i : Nat} (hi : i < n) : (rows.getD i []).length = n := h.all _ (getD_in (by rw [h.len]; exact hi))
theorem cut_getD {k j : Nat} {r : List Int} (h : k < r.length) : (cut k r).getD j 0 = r.getD (sk k j) 0 := by
  unfold cut sk
  rw [List.getD_eq_getElem?_getD, List.getD_eq_getElem?_getD]
  by_cases c : j < k
  · rw [if_pos c, List.getElem?_append_left (by rw [List.length_take]; omega), List.getElem?_take, if_pos c]
  · rw [if_neg c, List.getElem?_append_right (by rw [List.length_take]; omega), List.length_take, Nat.min_eq_left (by omega), List.getElem?_drop]
    congr 2
    omega
theorem cut_length {k : Nat} {r : List Int} (h : k < r.length) : (cut k r).length = r.length - 1 := by
  unfold cut
  rw [List.length_append, List.length_take, List.length_drop]
  omega
theorem Sqr.minor {n k : Nat} {r : List Int} {rs : List (List Int)} (h : Sqr (n + 1) (r :: rs)) (hk : k < n + 1) : Sqr n (rs.map (cut k)) := by
  refine ⟨by rw [List.length_map]; have := h.len; rw [List.length_cons] at this; omega, fun q hq => ?_⟩
  obtain ⟨p, hp, e⟩ := List.mem_map.mp hq
  have := h.all p (List.mem_cons_of_mem _ hp)
  rw [← e, cut_length (by omega)]
  omega
theorem mx_minor {n k : Nat} {r : List Int} {rs : List (List Int)} (h : Sqr (n + 1) (r :: rs)) (hk : k < n + 1) : ∀ i j, i < n → j < n → mx (rs.map (cut k)) i j = mi k (mx (r :: rs)) i j := fun i j hi hj => by
  have hl : rs.length = n := by have := h.len; rw [List.length_cons] at this; omega
  show ((rs.map (cut k)).getD i []).getD j 0 = ((r :: rs).getD (i + 1) []).getD (sk k j) 0
  rw [getD_map' (a := []) (by omega), cut_getD]
  · rw [List.getD_cons_succ]
  · rw [h.all _ (List.mem_cons_of_mem _ (getD_in (by omega)))]; exact hk
/-- entries that every sum and product bears -/
def Bd (b : Int) (rows : List (List Int)) : Prop := ∀ r ∈ rows, ∀ e ∈ r, -b ≤ e ∧ e ≤ b
theorem Bd.cut {b : Int} {k : Nat} {r : List Int} {rs : List (List Int)} (h : Bd b (r :: rs)) : Bd b (rs.map (cut k)) := fun q hq e he => by
  obtain ⟨p, hp, z⟩ := List.mem_map.mp hq
  subst z
  refine h p (List.mem_cons_of_mem _ hp) e ?_
  unfold Tv.cut at he
  rcases List.mem_append.mp he with he | he
  · exact List.mem_of_mem_take he
  · exact List.mem_of_mem_drop he
theorem Bd.mono {b c : Int} {rows : List (List Int)} (h : Bd b rows) (hc : b ≤ c) : Bd c rows := fun r hr e he => by
  have := h r hr e he
  omega
theorem eqT_ne0 (x : Val) (xs : List Val) : eqT (.tup (x :: xs)) (.tup []) = false := by
  unfold eqT
  unfold eqTs
  rfl
theorem eqL_ne0 (x : Val) (xs : List Val) : eqT (.lst (x :: xs)) (.lst []) = false := by
  unfold eqT
  unfold eqTs
  rfl
theorem dt_vr (n : Nat) (r : List Int) : dtB (n + 1) (vr r) = true := dtB_tup fun x hx => by
  obtain ⟨i, _, rfl⟩ := List.mem_map.mp hx
  exact dtB_int _ _
theorem dt_vl (n : Nat) (r : List Int) : dtB (n + 1) (vl r) = true := dtB_lst fun x hx => by
  obtain ⟨i, _, rfl⟩ := List.mem_map.mp hx
  exact dtB_int _ _
theorem dt_tt (n : Nat) (rows : List (List Int)) : dtB (n + 2) (tt rows) = true := dtB_tup fun x hx => by
  obtain ⟨i, _, rfl⟩ := List.mem_map.mp hx
  exact dt_vr _ _
theorem dt_ll (n : Nat) (rows : List (List Int)) : dtB (n + 2) (ll rows) = true := dtB_lst fun x hx => by
  obtain ⟨i, _, rfl⟩ := List.mem_map.mp hx
  exact dt_vl _ _
theorem smB {b e : Int} (hb : b < 18446744073709551616) (h : -b ≤ e ∧ e ≤ b) : smallB e = true := smallI (by omega) (by omega)
end Tv

/-! tables turned about a little; values of sums of points (own plain maths) -/
namespace Mt
theorem sm_if {n p : Nat} {c : Int} {f : Nat → Int} (h : p < n) : sm n (fun j => if j = p then f j + c else f j) = sm n f + c := by
  have e : sm n (fun j => if j = p then f j + c else f j) = sm n fun j => f j + if j = p then c else 0 := sm_congr fun j _ => by
    by_cases q : j = p
    · rw [if_pos q, if_pos q]
    · rw [if_neg q, if_neg q, Int.add_zero]
  rw [e, sm_add, sm_one h]
def addC (A : Mx) (one two : Nat) (m : Int) : Mx := fun i j => if j = two then A i j + m * A i one else A i j
def addR (A : Mx) (one two : Nat) (m : Int) : Mx := fun i j => if i = two then A i j + m * A one j else A i j
/-- the point that the turned one stands for -/
def mvP (x : Nat → Int) (one two : Nat) (m : Int) : Nat → Int := fun i => if i = one then x i + m * x two else x i
theorem bil_addC {n one two : Nat} {m : Int} (A : Mx) (x y : Nat → Int) (h1 : one < n) (h2 : two < n) : bil n (addC A one two m) x y = bil n A x (mvP y one two m) := sm_congr fun i _ => by
  congr 1
  have e1 : sm n (fun j => addC A one two m i j * y j) = sm n fun j => if j = two then A i j * y j + m * A i one * y two else A i j * y j := sm_congr fun j _ => by
    unfold addC
    by_cases q : j = two
    · rw [if_pos q, if_pos q, q, Int.add_mul]
    · rw [if_neg q, if_neg q]
  have e2 : sm n (fun j => A i j * mvP y one two m j) = sm n fun j => if j = one then A i j * y j + A i one * (m * y two) else A i j * y j := sm_congr fun j _ => by
    unfold mvP
    by_cases q : j = one
    · rw [if_pos q, if_pos q, q, Int.mul_add]
    · rw [if_neg q, if_neg q]
  rw [e1, e2, sm_if h2, sm_if h1]
  grind
theorem bil_addR {n one two : Nat} {m : Int} (A : Mx) (x y : Nat → Int) (h1 : one < n) (h2 : two < n) : bil n (addR A one two m) x y = bil n A (mvP x one two m) y := by
  have e1 : bil n (addR A one two m) x y = sm n fun i => if i = two then x i * sm n (fun j => A i j * y j) + m * x two * sm n (fun j => A one j * y j) else x i * sm n fun j => A i j * y j := sm_congr fun i _ => by
    by_cases q : i = two
    · rw [if_pos q, q]
      have : sm n (fun j => addR A one two m two j * y j) = sm n (fun j => A two j * y j) + m * sm n fun j => A one j * y j := by
        rw [← sm_mul, ← sm_add]
        refine sm_congr fun j _ => ?_
        unfold addR
        rw [if_pos rfl, Int.add_mul, Int.mul_assoc]
      rw [this]
      grind
    · rw [if_neg q]
      congr 1
      refine sm_congr fun j _ => ?_
      unfold addR
      rw [if_neg q]
  have e2 : bil n A (mvP x one two m) y = sm n fun i => if i = one then x i * sm n (fun j => A i j * y j) + m * x two * sm n (fun j => A one j * y j) else x i * sm n fun j => A i j * y j := sm_congr fun i _ => by
    unfold mvP
    by_cases q : i = one
    · rw [if_pos q, if_pos q, q, Int.add_mul]
    · rw [if_neg q, if_neg q]
  rw [e1, e2, sm_if h2, sm_if h1]
def spun (A : Mx) (one two : Nat) (m : Int) : Mx := addR (addC A one two m) one two m
theorem bil_spun {n one two : Nat} {m : Int} (A : Mx) (x y : Nat → Int) (h1 : one < n) (h2 : two < n) : bil n (spun A one two m) x y = bil n A (mvP x one two m) (mvP y one two m) := by
  unfold spun
  rw [bil_addR _ _ _ h1 h2, bil_addC _ _ _ h1 h2]
theorem mvP_nz {n one two : Nat} {m : Int} {x : Nat → Int} (h1 : one < n) (t : two < n) (h : ∃ i, i < n ∧ x i ≠ 0) (hn : one ≠ two) : ∃ i, i < n ∧ mvP x one two m i ≠ 0 := by
  obtain ⟨i, hi, hx⟩ := h
  by_cases q : i = one
  · by_cases z : x two = 0
    · refine ⟨i, hi, ?_⟩
      unfold mvP
      rw [if_pos q, z, Int.mul_zero, Int.add_zero]
      exact hx
    · refine ⟨two, t, ?_⟩
      unfold mvP
      rw [if_neg (Ne.symm hn)]
      exact z
  · refine ⟨i, hi, ?_⟩
    unfold mvP
    rw [if_neg q]
    exact hx
theorem spun_symm {n one two : Nat} {m : Int} {A : Mx} (h : symm n A) (h1 : one < n) (h2 : two < n) : symm n (spun A one two m) := fun i j hi hj => by
  have a1 := h i j hi hj
  have a2 := h i one hi h1
  have a3 := h one j h1 hj
  unfold spun addR addC
  by_cases p : i = two <;> by_cases q : j = two <;> simp only [p, q, if_true, if_false] <;> subst_vars <;> grind
/-! sums of points -/
theorem bil_symm {n : Nat} {A : Mx} (h : symm n A) (x y : Nat → Int) : bil n A x y = bil n A y x := by
  have e : ∀ x y : Nat → Int, bil n A x y = sm n fun i => sm n fun j => x i * (A i j * y j) := fun x y => sm_congr fun i _ => by rw [sm_mul]
  rw [e x y, e y x, sm_swap]
  refine sm_congr fun i hi => sm_congr fun j hj => ?_
  rw [h j i hj hi]
  grind
theorem bil_add {n : Nat} (A : Mx) (x y z : Nat → Int) : bil n A (fun i => x i + y i) z = bil n A x z + bil n A y z := by
  unfold bil
  rw [← sm_add]
  exact sm_congr fun i _ => Int.add_mul _ _ _
theorem bil_add' {n : Nat} (A : Mx) (x y z : Nat → Int) : bil n A z (fun i => x i + y i) = bil n A z x + bil n A z y := by
  unfold bil
  rw [← sm_add]
  refine sm_congr fun i _ => ?_
  rw [← Int.mul_add, ← sm_add]
  congr 1
  exact sm_congr fun j _ => Int.mul_add _ _ _
theorem bil_mul {n : Nat} (A : Mx) (c : Int) (x z : Nat → Int) : bil n A (fun i => c * x i) z = c * bil n A x z := by
  unfold bil
  rw [← sm_mul]
  exact sm_congr fun i _ => Int.mul_assoc _ _ _
theorem bil_mul' {n : Nat} (A : Mx) (c : Int) (x z : Nat → Int) : bil n A z (fun i => c * x i) = c * bil n A z x := by
  unfold bil
  rw [← sm_mul]
  refine sm_congr fun i _ => ?_
  have : sm n (fun j => A i j * (c * x j)) = c * sm n fun j => A i j * x j := by
    rw [← sm_mul]
    exact sm_congr fun j _ => Int.mul_left_comm _ _ _
  rw [this, Int.mul_left_comm]
theorem bil_congr {n : Nat} {A B : Mx} {x y u v : Nat → Int} (h : ∀ i j, i < n → j < n → A i j = B i j) (hx : ∀ i, i < n → x i = u i) (hy : ∀ i, i < n → y i = v i) : bil n A x y = bil n B u v := sm_congr fun i hi => by
  rw [hx i hi]
  congr 1
  exact sm_congr fun j hj => by rw [h i j hi hj, hy j hj]
theorem sure_congr {n : Nat} {A B : Mx} (h : ∀ i j, i < n → j < n → A i j = B i j) (s : sure n A) : sure n B := fun m h1 h2 => by
  have := s m h1 h2
  rwa [det_congr (B := B) fun i j hi hj => h i j (by omega) (by omega)] at this
theorem spun_sure {n one two : Nat} {m : Int} {A : Mx} (h : symm n A) (h1 : one < n) (h2 : two < n) (hn : one ≠ two) (s : sure n A) : sure n (spun A one two m) :=
  (sure_pd (spun_symm h h1 h2)).mpr fun x hx => by
    rw [bil_spun _ _ _ h1 h2]
    exact (sure_pd h).mp s _ (mvP_nz h1 h2 hx hn)
/-- tables of squares -/
def dia (f : Nat → Int) : Mx := fun i j => if i = j then f i else 0
theorem dia_symm {n : Nat} (f : Nat → Int) : symm n (dia f) := fun i j _ _ => by
  unfold dia
  by_cases h : i = j
  · rw [if_pos h, if_pos h.symm, h]
  · rw [if_neg h, if_neg (Ne.symm h)]
theorem dia_pd {n : Nat} {f : Nat → Int} (h : ∀ i, i < n → 0 < f i) : pd n (dia f) := fun x ⟨i, hi, hx⟩ => by
  have e : bil n (dia f) x x = sm n fun i => f i * (x i * x i) := sm_congr fun i hi => by
    have : sm n (fun j => dia f i j * x j) = f i * x i := by
      rw [← sm_one (n := n) (p := i) (c := f i * x i) hi]
      refine sm_congr fun j _ => ?_
      unfold dia
      by_cases q : i = j
      · rw [if_pos q, if_pos q.symm, q]
      · rw [if_neg q, if_neg (Ne.symm q), Int.zero_mul]
    rw [this]
    grind
  have ge : ∀ {m : Nat}, m ≤ n → 0 ≤ sm m fun i => f i * (x i * x i) := fun {m} => by
    induction m with
    | zero => intro _; exact Int.le_refl _
    | succ m ih =>
      intro hm
      have := ih (by omega)
      have := Int.mul_nonneg (Int.le_of_lt (h m (by omega))) (sq_nonneg (x m))
      show 0 ≤ sm m (fun i => f i * (x i * x i)) + f m * (x m * x m)
      omega
  have gt : ∀ {m : Nat}, i < m → m ≤ n → 0 < sm m fun i => f i * (x i * x i) := fun {m} => by
    induction m with
    | zero => intro h; omega
    | succ m ih =>
      intro h1 hm
      show 0 < sm m (fun i => f i * (x i * x i)) + f m * (x m * x m)
      by_cases q : i = m
      · subst q
        have := ge (m := i) (by omega)
        have := Int.mul_pos (h i hi) (sq_pos hx)
        omega
      · have := ih (by omega) (by omega)
        have := Int.mul_nonneg (Int.le_of_lt (h m (by omega))) (sq_nonneg (x m))
        omega
  rw [e]
  exact gt hi (Nat.le_refl n)
theorem dia_sure {n : Nat} {f : Nat → Int} (h : ∀ i, i < n → 0 < f i) : sure n (dia f) := (sure_pd (dia_symm f)).mpr (dia_pd h)
end Mt

/-! mirrors, printed by gen.py -/
namespace K05
open PySem PySem.Spec PyProof.Rows L2 Tv
def m__law_square_rows : List Val → Res Val
  | [a_factors] => ((((Pure.pure a_factors) >>= fun x1 => (Pure.pure []) >>= fun xs2 => Pure.pure (x1 :: xs2)) >>= fun xs3 => Mon.of (fLen xs3)) >>= fun v_size4 => ((((Pure.pure v_size4) >>= fun x5 => (Pure.pure []) >>= fun xs6 => Pure.pure (x5 :: xs6)) >>= fun xs7 => Mon.of (vRange1 xs7)) >>= fun xs8 => Mon.nx (mapM' (fun v10 => ((((Pure.pure v_size4) >>= fun x11 => (Pure.pure []) >>= fun xs12 => Pure.pure (x11 :: xs12)) >>= fun xs13 => Mon.of (vRange1 xs13)) >>= fun xs14 => Mon.nx (mapM' (fun v16 => (((Pure.pure v10) >>= fun x17 => (Pure.pure v16) >>= fun x18 => Mon.of (oEq x17 x18 >>= vBl)) >>= fun t21 => if t21 = true then ((Pure.pure a_factors) >>= fun x19 => (Pure.pure v10) >>= fun x20 => Mon.of (oIx x19 x20)) else (Pure.pure (.int 0)))) xs14) >>= fun ys15 => Mon.of (vLst ys15))) xs8) >>= fun ys9 => Mon.of (vLst ys9)))
  | _ => Mon.of .stuck
def m__law_dip : List Val → M Val
  | [a_jar, a_top] => ((((Pure.pure a_jar) >>= fun x1 => (Pure.pure (.int 2)) >>= fun x2 => ixM x1 x2) >>= fun x3 => (Pure.pure (.int 1)) >>= fun x4 => Mon.of (oAdd x3 x4)) >>= fun x5 => (Pure.pure a_jar) >>= fun x6 => (Pure.pure (.int 2)) >>= fun x7 => setM x6 x7 x5 >>= fun _ => ((((Pure.pure a_jar) >>= fun x8 => (Pure.pure (.int 0)) >>= fun x9 => ixM x8 x9) >>= fun x10 => (Pure.pure (.int 0)) >>= fun x11 => Mon.of (oGt x10 x11 >>= vBl)) >>= fun t12 => if t12 = true then (((((Pure.pure a_jar) >>= fun x17 => (Pure.pure (.int 0)) >>= fun x18 => ixM x17 x18) >>= fun x15 => ((Pure.pure a_top) >>= fun x13 => (Pure.pure []) >>= fun xs14 => Pure.pure (x13 :: xs14)) >>= fun xs16 => Pure.pure (x15 :: xs16)) >>= fun xs19 => Mon.of (fDivmod xs19)) >>= fun x20 => on2 x20 fun x21 v_digit22 => (Pure.pure a_jar) >>= fun x23 => (Pure.pure (.int 0)) >>= fun x24 => setM x23 x24 x21 >>= fun _ => (Pure.pure v_digit22)) else ((((((((Pure.pure a_jar) >>= fun x27 => (Pure.pure (.int 1)) >>= fun x28 => ixM x27 x28) >>= fun x29 => (Pure.pure (.int 48271)) >>= fun x30 => Mon.of (oMul x29 x30)) >>= fun x35 => ((Pure.pure (.int 50021)) >>= fun x33 => ((Pure.pure a_jar) >>= fun x31 => (Pure.pure (.int 2)) >>= fun x32 => ixM x31 x32) >>= fun x34 => Mon.of (oMul x33 x34)) >>= fun x36 => Mon.of (oAdd x35 x36)) >>= fun x25 => (Pure.pure []) >>= fun xs26 => Pure.pure (x25 :: xs26)) >>= fun xs37 => Mon.of (fInt xs37)) >>= fun x38 => (Pure.pure (.int 2147483399)) >>= fun x39 => Mon.of (oMod x38 x39)) >>= fun x40 => (Pure.pure a_jar) >>= fun x41 => (Pure.pure (.int 1)) >>= fun x42 => setM x41 x42 x40 >>= fun _ => ((((((Pure.pure a_jar) >>= fun x45 => (Pure.pure (.int 1)) >>= fun x46 => ixM x45 x46) >>= fun x47 => (Pure.pure (.int 512)) >>= fun x48 => Mon.of (oFdiv x47 x48)) >>= fun x43 => (Pure.pure []) >>= fun xs44 => Pure.pure (x43 :: xs44)) >>= fun xs49 => Mon.of (fInt xs49)) >>= fun x50 => (Pure.pure a_top) >>= fun x51 => Mon.of (oMod x50 x51)))))
  | _ => Mon.of .stuck
def m__law_spun : List Val → Res Val
  | [a_rows, a_one, a_two, a_many] => ((((Pure.pure a_rows) >>= fun x1 => Mon.of (vIter x1)) >>= fun xs2 => Mon.nx (mapO (fun v4 => ((Pure.pure v4) >>= fun x5 => Mon.of (seqL x5))) xs2) >>= fun ys3 => Mon.of (vLst2 ys3)) >>= fun oo6 => (((((((Pure.pure a_rows) >>= fun x25 => (Pure.pure []) >>= fun xs26 => Pure.pure (x25 :: xs26)) >>= fun xs27 => Mon.of (fLen xs27)) >>= fun x23 => (Pure.pure []) >>= fun xs24 => Pure.pure (x23 :: xs24)) >>= fun xs28 => Mon.of (vRange1 xs28)) >>= fun xs29 => forM' (τ := Val) (fun st7 x8 => ((((Pure.pure x8) >>= fun x9 => Mon.of (rowOf st7 x9) >>= fun xs10 => (Pure.pure a_two) >>= fun x11 => Mon.of (ixL xs10 x11)) >>= fun x17 => ((Pure.pure a_many) >>= fun x15 => ((Pure.pure x8) >>= fun x12 => Mon.of (rowOf st7 x12) >>= fun xs13 => (Pure.pure a_one) >>= fun x14 => Mon.of (ixL xs13 x14)) >>= fun x16 => Mon.of (oMul x15 x16)) >>= fun x18 => Mon.of (oAdd x17 x18)) >>= fun x19 => (Pure.pure x8) >>= fun x20 => Mon.of (rowOf st7 x20) >>= fun _ => (Pure.pure a_two) >>= fun x21 => Mon.of (setRow st7 x20 x21 x19) >>= fun oo22 => (Pure.pure (.nx (oo22 : List (List Val)))))) xs29 oo6) >>= onlyNx >>= fun st30 => (((((((Pure.pure a_rows) >>= fun x49 => (Pure.pure []) >>= fun xs50 => Pure.pure (x49 :: xs50)) >>= fun xs51 => Mon.of (fLen xs51)) >>= fun x47 => (Pure.pure []) >>= fun xs48 => Pure.pure (x47 :: xs48)) >>= fun xs52 => Mon.of (vRange1 xs52)) >>= fun xs53 => forM' (τ := Val) (fun st31 x32 => ((((Pure.pure a_two) >>= fun x33 => Mon.of (rowOf st31 x33) >>= fun xs34 => (Pure.pure x32) >>= fun x35 => Mon.of (ixL xs34 x35)) >>= fun x41 => ((Pure.pure a_many) >>= fun x39 => ((Pure.pure a_one) >>= fun x36 => Mon.of (rowOf st31 x36) >>= fun xs37 => (Pure.pure x32) >>= fun x38 => Mon.of (ixL xs37 x38)) >>= fun x40 => Mon.of (oMul x39 x40)) >>= fun x42 => Mon.of (oAdd x41 x42)) >>= fun x43 => (Pure.pure a_two) >>= fun x44 => Mon.of (rowOf st31 x44) >>= fun _ => (Pure.pure x32) >>= fun x45 => Mon.of (setRow st31 x44 x45 x43) >>= fun oo46 => (Pure.pure (.nx (oo46 : List (List Val)))))) xs53 st30) >>= onlyNx >>= fun st54 => (Pure.pure (.lst (List.map Val.lst st54))))))
  | _ => Mon.of .stuck
def m__law_one_of : List Val → M Val
  | [a_jar, a_some] => ((Pure.pure a_some) >>= fun x1 => (((Pure.pure a_jar) >>= fun x8 => ((((Pure.pure a_some) >>= fun x5 => (Pure.pure []) >>= fun xs6 => Pure.pure (x5 :: xs6)) >>= fun xs7 => Mon.of (fLen xs7)) >>= fun x3 => (Pure.pure []) >>= fun xs4 => Pure.pure (x3 :: xs4)) >>= fun xs9 => Pure.pure (x8 :: xs9)) >>= fun xs2 => m__law_dip xs2) >>= fun x10 => ixM x1 x10)
  | _ => Mon.of .stuck
def m__law_det : Nat → List Val → Res Val
  | 0 => fun _ => Mon.of .stuck
  | n_ + 1 => fun xs => match xs with
    | [a_rows] => (((Pure.pure a_rows) >>= fun x2 => ((Pure.pure []) >>= fun xs1 => Mon.of (vLst xs1)) >>= fun x3 => Mon.of (oEq x2 x3 >>= vBl)) >>= fun t4 => if t4 = true then (Pure.pure (.int 1)) else ((Pure.pure (.int 0)) >>= fun v_total5 => (((((((Pure.pure a_rows) >>= fun x51 => (Pure.pure []) >>= fun xs52 => Pure.pure (x51 :: xs52)) >>= fun xs53 => Mon.of (fLen xs53)) >>= fun x49 => (Pure.pure []) >>= fun xs50 => Pure.pure (x49 :: xs50)) >>= fun xs54 => Mon.of (vRange1 xs54)) >>= fun xs55 => forM' (τ := Val) (fun st6 x7 => (((((Pure.pure a_rows) >>= fun x8 => ((Pure.pure (.int 1)) >>= fun x9 => Mon.of (asInt x9)) >>= fun l10 => (Pure.pure none) >>= fun h11 => Mon.of (oSl x8 l10 h11)) >>= fun x12 => Mon.of (vIter x12)) >>= fun xs13 => Mon.nx (mapM' (fun v15 => (((Pure.pure v15) >>= fun x16 => (Pure.pure none) >>= fun l18 => ((Pure.pure x7) >>= fun x17 => Mon.of (asInt x17)) >>= fun h19 => Mon.of (oSl x16 l18 h19)) >>= fun x26 => ((Pure.pure v15) >>= fun x20 => (((Pure.pure x7) >>= fun x21 => (Pure.pure (.int 1)) >>= fun x22 => Mon.of (oAdd x21 x22)) >>= fun x23 => Mon.of (asInt x23)) >>= fun l24 => (Pure.pure none) >>= fun h25 => Mon.of (oSl x20 l24 h25)) >>= fun x27 => Mon.of (oAdd x26 x27))) xs13) >>= fun ys14 => Mon.of (vLst ys14)) >>= fun v_rest28 => (((Pure.pure st6) >>= fun x46 => ((((Pure.pure (.int 1)) >>= fun x33 => ((Pure.pure (.int 2)) >>= fun x31 => ((Pure.pure x7) >>= fun x29 => (Pure.pure (.int 1)) >>= fun x30 => Mon.of (oAnd x29 x30)) >>= fun x32 => Mon.of (oMul x31 x32)) >>= fun x34 => Mon.of (oSub x33 x34)) >>= fun x39 => (((Pure.pure a_rows) >>= fun x35 => (Pure.pure (.int 0)) >>= fun x36 => Mon.of (oIx x35 x36)) >>= fun x37 => (Pure.pure x7) >>= fun x38 => Mon.of (oIx x37 x38)) >>= fun x40 => Mon.of (oMul x39 x40)) >>= fun x44 => (((Pure.pure v_rest28) >>= fun x42 => (Pure.pure []) >>= fun xs43 => Pure.pure (x42 :: xs43)) >>= fun xs41 => m__law_det n_ xs41) >>= fun x45 => Mon.of (oMul x44 x45)) >>= fun x47 => Mon.of (oAdd x46 x47)) >>= fun v_total48 => (Pure.pure (.nx (v_total48 : Val)))))) xs55 v_total5) >>= onlyNx >>= fun st56 => (Pure.pure st56))))
    | _ => Mon.of .stuck
def m__law_is_sure : List Val → Res Val
  | [a_rows] => ((((((Pure.pure (.int 1)) >>= fun x10 => (((((Pure.pure a_rows) >>= fun x5 => (Pure.pure []) >>= fun xs6 => Pure.pure (x5 :: xs6)) >>= fun xs7 => Mon.of (fLen xs7)) >>= fun x8 => (Pure.pure (.int 1)) >>= fun x9 => Mon.of (oAdd x8 x9)) >>= fun x3 => (Pure.pure []) >>= fun xs4 => Pure.pure (x3 :: xs4)) >>= fun xs11 => Pure.pure (x10 :: xs11)) >>= fun xs12 => Mon.of (vRange2 xs12)) >>= fun xs13 => Mon.nx (mapM' (fun v15 => (((((((Pure.pure a_rows) >>= fun x19 => (Pure.pure none) >>= fun l21 => ((Pure.pure v15) >>= fun x20 => Mon.of (asInt x20)) >>= fun h22 => Mon.of (oSl x19 l21 h22)) >>= fun x23 => Mon.of (vIter x23)) >>= fun xs24 => Mon.nx (mapM' (fun v26 => ((Pure.pure v26) >>= fun x27 => (Pure.pure none) >>= fun l29 => ((Pure.pure v15) >>= fun x28 => Mon.of (asInt x28)) >>= fun h30 => Mon.of (oSl x27 l29 h30))) xs24) >>= fun ys25 => Mon.of (vLst ys25)) >>= fun x17 => (Pure.pure []) >>= fun xs18 => Pure.pure (x17 :: xs18)) >>= fun xs16 => m__law_det 8 xs16) >>= fun x31 => (Pure.pure (.int 0)) >>= fun x32 => Mon.of (oGt x31 x32))) xs13) >>= fun ys14 => Mon.of (vLst ys14)) >>= fun x1 => (Pure.pure []) >>= fun xs2 => Pure.pure (x1 :: xs2)) >>= fun xs33 => Mon.of (fAll xs33))
  | _ => Mon.of .stuck
def m__law_greatest : List Val → Res Val
  | [a_rows] => (((((Pure.pure a_rows) >>= fun x3 => Mon.of (vIter x3)) >>= fun xs4 => Mon.nx (mapM' (fun v6 => (((((Pure.pure v6) >>= fun x9 => Mon.of (vIter x9)) >>= fun xs10 => Mon.nx (mapM' (fun v12 => (((Pure.pure v12) >>= fun x13 => (Pure.pure []) >>= fun xs14 => Pure.pure (x13 :: xs14)) >>= fun xs15 => Mon.of (fAbs xs15))) xs10) >>= fun ys11 => Mon.of (vLst ys11)) >>= fun x7 => (Pure.pure []) >>= fun xs8 => Pure.pure (x7 :: xs8)) >>= fun xs16 => Mon.of (fMax xs16))) xs4) >>= fun ys5 => Mon.of (vLst ys5)) >>= fun x1 => (Pure.pure []) >>= fun xs2 => Pure.pure (x1 :: xs2)) >>= fun xs17 => Mon.of (fMax xs17))
  | _ => Mon.of .stuck
def m__law_rows : List Val → M Val
  | [a_jar, a_most, a_top] => ((((((((Pure.pure (.int 1)) >>= fun x11 => (((Pure.pure a_jar) >>= fun x9 => ((Pure.pure a_most) >>= fun x7 => (Pure.pure []) >>= fun xs8 => Pure.pure (x7 :: xs8)) >>= fun xs10 => Pure.pure (x9 :: xs10)) >>= fun xs6 => m__law_dip xs6) >>= fun x12 => Mon.of (oAdd x11 x12)) >>= fun x4 => (Pure.pure []) >>= fun xs5 => Pure.pure (x4 :: xs5)) >>= fun xs13 => Mon.of (vRange1 xs13)) >>= fun xs14 => Mon.nx (mapM' (fun v16 => ((Pure.pure (.int 1)) >>= fun x22 => (((Pure.pure a_jar) >>= fun x20 => ((Pure.pure a_top) >>= fun x18 => (Pure.pure []) >>= fun xs19 => Pure.pure (x18 :: xs19)) >>= fun xs21 => Pure.pure (x20 :: xs21)) >>= fun xs17 => m__law_dip xs17) >>= fun x23 => Mon.of (oAdd x22 x23))) xs14) >>= fun ys15 => Mon.of (vLst ys15)) >>= fun x2 => (Pure.pure []) >>= fun xs3 => Pure.pure (x2 :: xs3)) >>= fun xs1 => Mon.of (m__law_square_rows xs1)) >>= fun v_rows24 => (((((((((Pure.pure v_rows24) >>= fun x99 => (Pure.pure []) >>= fun xs100 => Pure.pure (x99 :: xs100)) >>= fun xs101 => Mon.of (fLen xs101)) >>= fun x102 => (Pure.pure (.int 1)) >>= fun x103 => Mon.of (oGt x102 x103 >>= vBl)) >>= fun t109 => if t109 = true then (((Pure.pure a_jar) >>= fun x107 => ((Pure.pure (.int 4)) >>= fun x105 => (Pure.pure []) >>= fun xs106 => Pure.pure (x105 :: xs106)) >>= fun xs108 => Pure.pure (x107 :: xs108)) >>= fun xs104 => m__law_dip xs104) else (Pure.pure (.int 0))) >>= fun x97 => (Pure.pure []) >>= fun xs98 => Pure.pure (x97 :: xs98)) >>= fun xs110 => Mon.of (vRange1 xs110)) >>= fun xs111 => forM' (τ := Val) (fun st25 x26 => ((((Pure.pure a_jar) >>= fun x33 => ((((Pure.pure st25) >>= fun x30 => (Pure.pure []) >>= fun xs31 => Pure.pure (x30 :: xs31)) >>= fun xs32 => Mon.of (fLen xs32)) >>= fun x28 => (Pure.pure []) >>= fun xs29 => Pure.pure (x28 :: xs29)) >>= fun xs34 => Pure.pure (x33 :: xs34)) >>= fun xs27 => m__law_dip xs27) >>= fun v_one35 => (((((((Pure.pure v_one35) >>= fun x38 => (Pure.pure (.int 1)) >>= fun x39 => Mon.of (oAdd x38 x39)) >>= fun x50 => (((Pure.pure a_jar) >>= fun x48 => (((((Pure.pure st25) >>= fun x43 => (Pure.pure []) >>= fun xs44 => Pure.pure (x43 :: xs44)) >>= fun xs45 => Mon.of (fLen xs45)) >>= fun x46 => (Pure.pure (.int 1)) >>= fun x47 => Mon.of (oSub x46 x47)) >>= fun x41 => (Pure.pure []) >>= fun xs42 => Pure.pure (x41 :: xs42)) >>= fun xs49 => Pure.pure (x48 :: xs49)) >>= fun xs40 => m__law_dip xs40) >>= fun x51 => Mon.of (oAdd x50 x51)) >>= fun x36 => (Pure.pure []) >>= fun xs37 => Pure.pure (x36 :: xs37)) >>= fun xs52 => Mon.of (fInt xs52)) >>= fun x56 => (((Pure.pure st25) >>= fun x53 => (Pure.pure []) >>= fun xs54 => Pure.pure (x53 :: xs54)) >>= fun xs55 => Mon.of (fLen xs55)) >>= fun x57 => Mon.of (oMod x56 x57)) >>= fun v_two58 => ((((Pure.pure st25) >>= fun x84 => ((Pure.pure v_one35) >>= fun x82 => ((Pure.pure v_two58) >>= fun x80 => ((((Pure.pure a_jar) >>= fun x78 => ((((Pure.pure (.int 1)) >>= fun x75 => (((Pure.pure (.int 1)) >>= fun x74 => Mon.of (oNeg x74)) >>= fun x72 => ((Pure.pure (.int 1)) >>= fun x70 => (((Pure.pure (.int 1)) >>= fun x69 => Mon.of (oNeg x69)) >>= fun x67 => ((Pure.pure (.int 2)) >>= fun x65 => (Pure.pure []) >>= fun xs66 => Pure.pure (x65 :: xs66)) >>= fun xs68 => Pure.pure (x67 :: xs68)) >>= fun xs71 => Pure.pure (x70 :: xs71)) >>= fun xs73 => Pure.pure (x72 :: xs73)) >>= fun xs76 => Pure.pure (x75 :: xs76)) >>= fun xs77 => Mon.of (vLst xs77)) >>= fun x63 => (Pure.pure []) >>= fun xs64 => Pure.pure (x63 :: xs64)) >>= fun xs79 => Pure.pure (x78 :: xs79)) >>= fun xs62 => m__law_one_of xs62) >>= fun x60 => (Pure.pure []) >>= fun xs61 => Pure.pure (x60 :: xs61)) >>= fun xs81 => Pure.pure (x80 :: xs81)) >>= fun xs83 => Pure.pure (x82 :: xs83)) >>= fun xs85 => Pure.pure (x84 :: xs85)) >>= fun xs59 => Mon.of (m__law_spun xs59)) >>= fun v_fresh86 => (((((((Pure.pure v_fresh86) >>= fun x88 => (Pure.pure []) >>= fun xs89 => Pure.pure (x88 :: xs89)) >>= fun xs87 => Mon.of (m__law_greatest xs87)) >>= fun x90 => (Pure.pure (.int 300)) >>= fun x91 => Mon.of (oLt x90 x91 >>= vBl)) >>= fun t94 => if t94 = true then Pure.pure true else ((Pure.pure a_top) >>= fun x92 => (Pure.pure (.int 40)) >>= fun x93 => Mon.of (oGt x92 x93 >>= vBl))) >>= fun t95 => if t95 = true then (Pure.pure v_fresh86) else (Pure.pure st25)) >>= fun v_rows96 => (Pure.pure (.nx (v_rows96 : Val)))))))) xs111 v_rows24) >>= onlyNx >>= fun st112 => (((((((((Pure.pure st112) >>= fun x177 => (Pure.pure []) >>= fun xs178 => Pure.pure (x177 :: xs178)) >>= fun xs179 => Mon.of (fLen xs179)) >>= fun x180 => (Pure.pure (.int 1)) >>= fun x181 => Mon.of (oGt x180 x181 >>= vBl)) >>= fun t187 => if t187 = true then (((Pure.pure a_jar) >>= fun x185 => ((Pure.pure (.int 3)) >>= fun x183 => (Pure.pure []) >>= fun xs184 => Pure.pure (x183 :: xs184)) >>= fun xs186 => Pure.pure (x185 :: xs186)) >>= fun xs182 => m__law_dip xs182) else (Pure.pure (.int 0))) >>= fun x175 => (Pure.pure []) >>= fun xs176 => Pure.pure (x175 :: xs176)) >>= fun xs188 => Mon.of (vRange1 xs188)) >>= fun xs189 => forM' (τ := Val) (fun st113 x114 => ((((Pure.pure a_jar) >>= fun x121 => ((((Pure.pure st113) >>= fun x118 => (Pure.pure []) >>= fun xs119 => Pure.pure (x118 :: xs119)) >>= fun xs120 => Mon.of (fLen xs120)) >>= fun x116 => (Pure.pure []) >>= fun xs117 => Pure.pure (x116 :: xs117)) >>= fun xs122 => Pure.pure (x121 :: xs122)) >>= fun xs115 => m__law_dip xs115) >>= fun v_one123 => (((((((Pure.pure v_one123) >>= fun x126 => (Pure.pure (.int 1)) >>= fun x127 => Mon.of (oAdd x126 x127)) >>= fun x138 => (((Pure.pure a_jar) >>= fun x136 => (((((Pure.pure st113) >>= fun x131 => (Pure.pure []) >>= fun xs132 => Pure.pure (x131 :: xs132)) >>= fun xs133 => Mon.of (fLen xs133)) >>= fun x134 => (Pure.pure (.int 1)) >>= fun x135 => Mon.of (oSub x134 x135)) >>= fun x129 => (Pure.pure []) >>= fun xs130 => Pure.pure (x129 :: xs130)) >>= fun xs137 => Pure.pure (x136 :: xs137)) >>= fun xs128 => m__law_dip xs128) >>= fun x139 => Mon.of (oAdd x138 x139)) >>= fun x124 => (Pure.pure []) >>= fun xs125 => Pure.pure (x124 :: xs125)) >>= fun xs140 => Mon.of (fInt xs140)) >>= fun x144 => (((Pure.pure st113) >>= fun x141 => (Pure.pure []) >>= fun xs142 => Pure.pure (x141 :: xs142)) >>= fun xs143 => Mon.of (fLen xs143)) >>= fun x145 => Mon.of (oMod x144 x145)) >>= fun v_two146 => ((((Pure.pure st113) >>= fun x147 => Mon.of (vIter x147)) >>= fun xs148 => Mon.nx (mapO (fun v150 => ((Pure.pure v150) >>= fun x151 => Mon.of (seqL x151))) xs148) >>= fun ys149 => Mon.of (vLst2 ys149)) >>= fun oo152 => ((((Pure.pure v_one123) >>= fun x153 => Mon.of (rowOf oo152 x153) >>= fun xs154 => (Pure.pure v_two146) >>= fun x155 => Mon.of (ixL xs154 x155)) >>= fun x156 => (Pure.pure (.int 1)) >>= fun x157 => Mon.of (oAdd x156 x157)) >>= fun x158 => (Pure.pure v_one123) >>= fun x159 => Mon.of (rowOf oo152 x159) >>= fun _ => (Pure.pure v_two146) >>= fun x160 => Mon.of (setRow oo152 x159 x160 x158) >>= fun oo161 => (((Pure.pure v_one123) >>= fun x162 => Mon.of (rowOf oo161 x162) >>= fun xs163 => (Pure.pure v_two146) >>= fun x164 => Mon.of (ixL xs163 x164)) >>= fun x165 => (Pure.pure v_two146) >>= fun x166 => Mon.of (rowOf oo161 x166) >>= fun _ => (Pure.pure v_one123) >>= fun x167 => Mon.of (setRow oo161 x166 x167 x165) >>= fun oo168 => ((((((Pure.pure (.lst (List.map Val.lst oo168))) >>= fun x170 => (Pure.pure []) >>= fun xs171 => Pure.pure (x170 :: xs171)) >>= fun xs169 => Mon.of (m__law_is_sure xs169)) >>= fun x172 => Mon.of (vTru x172)) >>= fun t173 => if t173 = true then (Pure.pure (.lst (List.map Val.lst oo168))) else (Pure.pure st113)) >>= fun v_rows174 => (Pure.pure (.nx (v_rows174 : Val)))))))))) xs189 st112) >>= onlyNx >>= fun st190 => (Pure.pure st190))))
  | _ => Mon.of .stuck
def m_is_integer : List Val → Res Val
  | [a_value] => (((Pure.pure a_value) >>= fun x1 => Mon.of (fIsB "int" x1)) >>= fun x5 => Mon.of (vTruV x5) >>= fun x6 => if x6 = true then (((Pure.pure a_value) >>= fun x2 => Mon.of (fIsB "bool" x2)) >>= fun x3 => Mon.of (vTruV x3) >>= fun x4 => Pure.pure (.bl (!x4))) else Pure.pure x5)
  | _ => Mon.of .stuck
def m_is_between : List Val → Res Val
  | [a_value, a_low, a_high] => ((((Pure.pure a_value) >>= fun x2 => (Pure.pure []) >>= fun xs3 => Pure.pure (x2 :: xs3)) >>= fun xs1 => m_is_integer xs1) >>= fun x8 => Mon.of (vTruV x8) >>= fun x9 => if x9 = true then ((Pure.pure a_low) >>= fun x4 => (Pure.pure a_value) >>= fun x5 => Mon.of (oLe x4 x5 >>= vBl) >>= fun t7 => if t7 = true then (Pure.pure a_high) >>= fun x6 => Mon.of (oLe x5 x6) else Pure.pure (.bl false)) else Pure.pure x8)
  | _ => Mon.of .stuck
def m_is_row : List Val → Res Val
  | [a_value, a_rows, a_places] => ((((((Pure.pure a_value) >>= fun x1 => Mon.of (fIsB "tuple" x1)) >>= fun x2 => Mon.of (vTru x2)) >>= fun t3 => Pure.pure (!t3)) >>= fun t9 => if t9 = true then Pure.pure true else ((((Pure.pure a_value) >>= fun x4 => (Pure.pure []) >>= fun xs5 => Pure.pure (x4 :: xs5)) >>= fun xs6 => Mon.of (fLen xs6)) >>= fun x7 => (Pure.pure a_places) >>= fun x8 => Mon.of (oNe x7 x8 >>= vBl))) >>= fun t10 => if t10 = true then (Pure.pure (.bl false)) else ((((((((Pure.pure a_value) >>= fun x13 => Mon.of (vIter x13)) >>= fun xs14 => Mon.nx (mapM' (fun v16 => (((Pure.pure v16) >>= fun x23 => (((Pure.pure (.int 1000)) >>= fun x22 => Mon.of (oNeg x22)) >>= fun x20 => ((Pure.pure (.int 1000)) >>= fun x18 => (Pure.pure []) >>= fun xs19 => Pure.pure (x18 :: xs19)) >>= fun xs21 => Pure.pure (x20 :: xs21)) >>= fun xs24 => Pure.pure (x23 :: xs24)) >>= fun xs17 => m_is_between xs17)) xs14) >>= fun ys15 => Mon.of (vLst ys15)) >>= fun x11 => (Pure.pure []) >>= fun xs12 => Pure.pure (x11 :: xs12)) >>= fun xs25 => Mon.of (fAll xs25)) >>= fun x26 => Mon.of (vTru x26)) >>= fun t27 => Pure.pure (!t27)) >>= fun t28 => if t28 = true then (Pure.pure (.bl false)) else ((((((Pure.pure a_rows) >>= fun x31 => (Pure.pure []) >>= fun xs32 => Pure.pure (x31 :: xs32)) >>= fun xs33 => Mon.of (vEnum xs33)) >>= fun xs34 => Mon.nx (mapM' (fun z_ => on2 z_ fun v36 v37 => (((Pure.pure v37) >>= fun x38 => (((Pure.pure a_rows) >>= fun x39 => (Pure.pure []) >>= fun xs40 => Pure.pure (x39 :: xs40)) >>= fun xs41 => Mon.of (fLen xs41)) >>= fun x42 => Mon.of (oIx x38 x42)) >>= fun x45 => ((Pure.pure a_value) >>= fun x43 => (Pure.pure v36) >>= fun x44 => Mon.of (oIx x43 x44)) >>= fun x46 => Mon.of (oEq x45 x46))) xs34) >>= fun ys35 => Mon.of (vLst ys35)) >>= fun x29 => (Pure.pure []) >>= fun xs30 => Pure.pure (x29 :: xs30)) >>= fun xs47 => Mon.of (fAll xs47))))
  | _ => Mon.of .stuck
def m_table_until : List Val → Res Val
  | [a_table] => (((((Pure.pure a_table) >>= fun x23 => (Pure.pure []) >>= fun xs24 => Pure.pure (x23 :: xs24)) >>= fun xs25 => Mon.of (vEnum xs25)) >>= fun xs26 => forM' (τ := Val) (fun st1 x2 => on2 x2 fun v_index3 v_value4 => ((((((Pure.pure v_value4) >>= fun x17 => (((Pure.pure a_table) >>= fun x13 => (Pure.pure none) >>= fun l15 => ((Pure.pure v_index3) >>= fun x14 => Mon.of (asInt x14)) >>= fun h16 => Mon.of (oSl x13 l15 h16)) >>= fun x11 => ((((Pure.pure a_table) >>= fun x8 => (Pure.pure []) >>= fun xs9 => Pure.pure (x8 :: xs9)) >>= fun xs10 => Mon.of (fLen xs10)) >>= fun x6 => (Pure.pure []) >>= fun xs7 => Pure.pure (x6 :: xs7)) >>= fun xs12 => Pure.pure (x11 :: xs12)) >>= fun xs18 => Pure.pure (x17 :: xs18)) >>= fun xs5 => m_is_row xs5) >>= fun x19 => Mon.of (vTru x19)) >>= fun t20 => Pure.pure (!t20)) >>= fun t21 => if t21 = true then ((Pure.pure v_index3) >>= fun v22 => Pure.pure (.rt v22)) else (Pure.pure (.nx (() : Unit))))) xs26 ()) >>= nxRt >>= orRt (fun st27 => (Pure.pure .non)) id)
  | _ => Mon.of .stuck
def m_determinant_of : Nat → List Val → Res Val
  | 0 => fun _ => Mon.of .stuck
  | n_ + 1 => fun xs => match xs with
    | [a_rows] => (((Pure.pure a_rows) >>= fun x2 => ((Pure.pure []) >>= fun xs1 => Mon.of (vTup xs1)) >>= fun x3 => Mon.of (oEq x2 x3 >>= vBl)) >>= fun t4 => if t4 = true then (Pure.pure (.int 1)) else ((Pure.pure (.int 0)) >>= fun v_total5 => ((((((Pure.pure a_rows) >>= fun x56 => (Pure.pure (.int 0)) >>= fun x57 => Mon.of (oIx x56 x57)) >>= fun x54 => (Pure.pure []) >>= fun xs55 => Pure.pure (x54 :: xs55)) >>= fun xs58 => Mon.of (vEnum xs58)) >>= fun xs59 => forM' (τ := Val) (fun st6 x7 => on2 x7 fun v_place8 v_entry9 => (((Pure.pure v_entry9) >>= fun x10 => (Pure.pure (.int 0)) >>= fun x11 => Mon.of (oNe x10 x11 >>= vBl)) >>= fun t12 => if t12 = true then (((((((Pure.pure a_rows) >>= fun x15 => ((Pure.pure (.int 1)) >>= fun x16 => Mon.of (asInt x16)) >>= fun l17 => (Pure.pure none) >>= fun h18 => Mon.of (oSl x15 l17 h18)) >>= fun x19 => Mon.of (vIter x19)) >>= fun xs20 => Mon.nx (mapM' (fun v22 => ((((Pure.pure v22) >>= fun x34 => (Pure.pure none) >>= fun l36 => ((Pure.pure v_place8) >>= fun x35 => Mon.of (asInt x35)) >>= fun h37 => Mon.of (oSl x34 l36 h37)) >>= fun x32 => Mon.of (vSeq x32) >>= fun xs38 => (((Pure.pure v22) >>= fun x25 => (((Pure.pure v_place8) >>= fun x26 => (Pure.pure (.int 1)) >>= fun x27 => Mon.of (oAdd x26 x27)) >>= fun x28 => Mon.of (asInt x28)) >>= fun l29 => (Pure.pure none) >>= fun h30 => Mon.of (oSl x25 l29 h30)) >>= fun x23 => Mon.of (vSeq x23) >>= fun xs31 => (Pure.pure []) >>= fun xs24 => Pure.pure (xs31 ++ xs24)) >>= fun xs33 => Pure.pure (xs38 ++ xs33)) >>= fun xs39 => Mon.of (vTup xs39))) xs20) >>= fun ys21 => Mon.of (vLst ys21)) >>= fun x13 => (Pure.pure []) >>= fun xs14 => Pure.pure (x13 :: xs14)) >>= fun xs40 => Mon.of (fTuple xs40)) >>= fun v_rest41 => ((((((Pure.pure v_place8) >>= fun x42 => (Pure.pure (.int 2)) >>= fun x43 => Mon.of (oMod x42 x43)) >>= fun x44 => Mon.of (vTru x44)) >>= fun t46 => if t46 = true then ((Pure.pure v_entry9) >>= fun x45 => Mon.of (oNeg x45)) else (Pure.pure v_entry9)) >>= fun x50 => (((Pure.pure v_rest41) >>= fun x48 => (Pure.pure []) >>= fun xs49 => Pure.pure (x48 :: xs49)) >>= fun xs47 => m_determinant_of n_ xs47) >>= fun x51 => Mon.of (oMul x50 x51)) >>= fun x52 => Mon.of (ipOf (fun i j => i + j) st6 x52) >>= fun v_total53 => (Pure.pure (.nx (v_total53 : Val))))) else (Pure.pure (.nx (st6 : Val))))) xs59 v_total5) >>= onlyNx >>= fun st60 => (Pure.pure st60))))
    | _ => Mon.of .stuck
def m_corner_of : List Val → Res Val
  | [a_table, a_many] => ((((((Pure.pure a_table) >>= fun x3 => (Pure.pure none) >>= fun l5 => ((Pure.pure a_many) >>= fun x4 => Mon.of (asInt x4)) >>= fun h6 => Mon.of (oSl x3 l5 h6)) >>= fun x7 => Mon.of (vIter x7)) >>= fun xs8 => Mon.nx (mapM' (fun v10 => ((Pure.pure v10) >>= fun x11 => (Pure.pure none) >>= fun l13 => ((Pure.pure a_many) >>= fun x12 => Mon.of (asInt x12)) >>= fun h14 => Mon.of (oSl x11 l13 h14))) xs8) >>= fun ys9 => Mon.of (vLst ys9)) >>= fun x1 => (Pure.pure []) >>= fun xs2 => Pure.pure (x1 :: xs2)) >>= fun xs15 => Mon.of (fTuple xs15))
  | _ => Mon.of .stuck
def m_is_sure : List Val → Res Val
  | [a_table] => ((((((Pure.pure (.int 1)) >>= fun x10 => (((((Pure.pure a_table) >>= fun x5 => (Pure.pure []) >>= fun xs6 => Pure.pure (x5 :: xs6)) >>= fun xs7 => Mon.of (fLen xs7)) >>= fun x8 => (Pure.pure (.int 1)) >>= fun x9 => Mon.of (oAdd x8 x9)) >>= fun x3 => (Pure.pure []) >>= fun xs4 => Pure.pure (x3 :: xs4)) >>= fun xs11 => Pure.pure (x10 :: xs11)) >>= fun xs12 => Mon.of (vRange2 xs12)) >>= fun xs13 => Mon.nx (mapM' (fun v15 => ((((((Pure.pure a_table) >>= fun x22 => ((Pure.pure v15) >>= fun x20 => (Pure.pure []) >>= fun xs21 => Pure.pure (x20 :: xs21)) >>= fun xs23 => Pure.pure (x22 :: xs23)) >>= fun xs19 => m_corner_of xs19) >>= fun x17 => (Pure.pure []) >>= fun xs18 => Pure.pure (x17 :: xs18)) >>= fun xs16 => m_determinant_of 8 xs16) >>= fun x24 => (Pure.pure (.int 0)) >>= fun x25 => Mon.of (oGt x24 x25))) xs13) >>= fun ys14 => Mon.of (vLst ys14)) >>= fun x1 => (Pure.pure []) >>= fun xs2 => Pure.pure (x1 :: xs2)) >>= fun xs26 => Mon.of (fAll xs26))
  | _ => Mon.of .stuck
def m_Form___init__ : List Val → Res (List (Str × Val))
  | [a_table] => ((((((Pure.pure a_table) >>= fun x1 => Mon.of (fIsB "tuple" x1)) >>= fun x2 => Mon.of (vTru x2)) >>= fun t3 => Pure.pure (!t3)) >>= fun t12 => if t12 = true then Pure.pure true else (((Pure.pure (.int 1)) >>= fun x7 => (((Pure.pure a_table) >>= fun x4 => (Pure.pure []) >>= fun xs5 => Pure.pure (x4 :: xs5)) >>= fun xs6 => Mon.of (fLen xs6)) >>= fun x8 => Mon.of (oLe x7 x8 >>= vBl) >>= fun t10 => if t10 = true then (Pure.pure (.int 5)) >>= fun x9 => Mon.of (oLe x8 x9 >>= vBl) else Pure.pure false) >>= fun t11 => Pure.pure (!t11))) >>= fun t13 => if t13 = true then (Mon.of .stuck) else ((((Pure.pure a_table) >>= fun x15 => (Pure.pure []) >>= fun xs16 => Pure.pure (x15 :: xs16)) >>= fun xs14 => m_table_until xs14) >>= fun v_index17 => (((Pure.pure v_index17) >>= fun x18 => (Pure.pure .non) >>= fun x19 => Mon.of (oNotN x18 x19 >>= vBl)) >>= fun t20 => if t20 = true then (Mon.of .stuck) else ((((((Pure.pure a_table) >>= fun x22 => (Pure.pure []) >>= fun xs23 => Pure.pure (x22 :: xs23)) >>= fun xs21 => m_is_sure xs21) >>= fun x24 => Mon.of (vTru x24)) >>= fun t25 => Pure.pure (!t25)) >>= fun t26 => if t26 = true then (Mon.of .stuck) else ((Pure.pure a_table) >>= fun v_rows27 => ((((Pure.pure a_table) >>= fun x29 => (Pure.pure []) >>= fun xs30 => Pure.pure (x29 :: xs30)) >>= fun xs28 => m_determinant_of 8 xs28) >>= fun v_total31 => (Pure.pure (putFv "total" v_total31 (putFv "rows" v_rows27 [])))))))))
  | _ => Mon.of .stuck
def m__law_table : List Val → Res Val
  | [a_rows] => (((((Pure.pure a_rows) >>= fun x3 => Mon.of (vIter x3)) >>= fun xs4 => Mon.nx (mapM' (fun v6 => (((Pure.pure v6) >>= fun x7 => (Pure.pure []) >>= fun xs8 => Pure.pure (x7 :: xs8)) >>= fun xs9 => Mon.of (fTuple xs9))) xs4) >>= fun ys5 => Mon.of (vLst ys5)) >>= fun x1 => (Pure.pure []) >>= fun xs2 => Pure.pure (x1 :: xs2)) >>= fun xs10 => Mon.of (fTuple xs10))
  | _ => Mon.of .stuck
def m__law_made : List Val → Res Val
  | [a_rows] => (((((Pure.pure a_rows) >>= fun x6 => (Pure.pure []) >>= fun xs7 => Pure.pure (x6 :: xs7)) >>= fun xs5 => m__law_table xs5) >>= fun x3 => (Pure.pure []) >>= fun xs4 => Pure.pure (x3 :: xs4)) >>= fun xs2 => m_Form___init__ xs2 >>= fun fs1 => Pure.pure (.obj "Form" fs1))
  | _ => Mon.of .stuck
def m__law_point : List Val → M Val
  | [a_jar, a_size] => ((((Pure.pure (.int 0)) >>= fun x29 => ((Pure.pure (.int 1)) >>= fun x27 => (((Pure.pure (.int 1)) >>= fun x26 => Mon.of (oNeg x26)) >>= fun x24 => ((Pure.pure (.int 2)) >>= fun x22 => (((Pure.pure (.int 3)) >>= fun x21 => Mon.of (oNeg x21)) >>= fun x19 => ((Pure.pure (.int 7)) >>= fun x17 => (((Pure.pure (.int 10)) >>= fun x15 => (Pure.pure (.int 25)) >>= fun x16 => Mon.of (oPow x15 x16)) >>= fun x13 => ((((Pure.pure (.int 10)) >>= fun x10 => (Pure.pure (.int 12)) >>= fun x11 => Mon.of (oPow x10 x11)) >>= fun x12 => Mon.of (oNeg x12)) >>= fun x8 => ((((Pure.pure a_jar) >>= fun x6 => ((Pure.pure (.int 999)) >>= fun x4 => (Pure.pure []) >>= fun xs5 => Pure.pure (x4 :: xs5)) >>= fun xs7 => Pure.pure (x6 :: xs7)) >>= fun xs3 => m__law_dip xs3) >>= fun x1 => (Pure.pure []) >>= fun xs2 => Pure.pure (x1 :: xs2)) >>= fun xs9 => Pure.pure (x8 :: xs9)) >>= fun xs14 => Pure.pure (x13 :: xs14)) >>= fun xs18 => Pure.pure (x17 :: xs18)) >>= fun xs20 => Pure.pure (x19 :: xs20)) >>= fun xs23 => Pure.pure (x22 :: xs23)) >>= fun xs25 => Pure.pure (x24 :: xs25)) >>= fun xs28 => Pure.pure (x27 :: xs28)) >>= fun xs30 => Pure.pure (x29 :: xs30)) >>= fun xs31 => Mon.of (vLst xs31)) >>= fun v_menu32 => ((((((Pure.pure a_size) >>= fun x35 => (Pure.pure []) >>= fun xs36 => Pure.pure (x35 :: xs36)) >>= fun xs37 => Mon.of (vRange1 xs37)) >>= fun xs38 => Mon.nx (mapM' (fun v40 => (((Pure.pure a_jar) >>= fun x44 => ((Pure.pure v_menu32) >>= fun x42 => (Pure.pure []) >>= fun xs43 => Pure.pure (x42 :: xs43)) >>= fun xs45 => Pure.pure (x44 :: xs45)) >>= fun xs41 => m__law_one_of xs41)) xs38) >>= fun ys39 => Mon.of (vLst ys39)) >>= fun x33 => (Pure.pure []) >>= fun xs34 => Pure.pure (x33 :: xs34)) >>= fun xs46 => Mon.of (fTuple xs46)))
  | _ => Mon.of .stuck
def m__law_times : List Val → Res Val
  | [a_rows, a_one, a_two] => ((Pure.pure (.int 0)) >>= fun v_total1 => (((((((Pure.pure a_rows) >>= fun x31 => (Pure.pure []) >>= fun xs32 => Pure.pure (x31 :: xs32)) >>= fun xs33 => Mon.of (fLen xs33)) >>= fun x29 => (Pure.pure []) >>= fun xs30 => Pure.pure (x29 :: xs30)) >>= fun xs34 => Mon.of (vRange1 xs34)) >>= fun xs35 => forM' (τ := Val) (fun st2 x3 => (((((((Pure.pure a_rows) >>= fun x23 => (Pure.pure []) >>= fun xs24 => Pure.pure (x23 :: xs24)) >>= fun xs25 => Mon.of (fLen xs25)) >>= fun x21 => (Pure.pure []) >>= fun xs22 => Pure.pure (x21 :: xs22)) >>= fun xs26 => Mon.of (vRange1 xs26)) >>= fun xs27 => forM' (τ := Val) (fun st4 x5 => (((Pure.pure st4) >>= fun x18 => (((((Pure.pure a_rows) >>= fun x6 => (Pure.pure x3) >>= fun x7 => Mon.of (oIx x6 x7)) >>= fun x8 => (Pure.pure x5) >>= fun x9 => Mon.of (oIx x8 x9)) >>= fun x12 => ((Pure.pure a_one) >>= fun x10 => (Pure.pure x3) >>= fun x11 => Mon.of (oIx x10 x11)) >>= fun x13 => Mon.of (oMul x12 x13)) >>= fun x16 => ((Pure.pure a_two) >>= fun x14 => (Pure.pure x5) >>= fun x15 => Mon.of (oIx x14 x15)) >>= fun x17 => Mon.of (oMul x16 x17)) >>= fun x19 => Mon.of (oAdd x18 x19)) >>= fun v_total20 => (Pure.pure (.nx (v_total20 : Val))))) xs27 st2) >>= onlyNx >>= fun st28 => (Pure.pure (.nx (st28 : Val))))) xs35 v_total1) >>= onlyNx >>= fun st36 => (Pure.pure st36)))
  | _ => Mon.of .stuck
def m_Form_places : List Val → Res Val
  | [a_self] => ((((Pure.pure a_self) >>= fun x3 => Mon.of (oFld ["Form"] "rows" x3)) >>= fun x1 => (Pure.pure []) >>= fun xs2 => Pure.pure (x1 :: xs2)) >>= fun xs4 => Mon.of (fLen xs4))
  | _ => Mon.of .stuck
def m_check_point : List Val → Res Val
  | [a_form, a_point] => ((((((Pure.pure a_point) >>= fun x1 => Mon.of (fIsB "tuple" x1)) >>= fun x2 => Mon.of (vTru x2)) >>= fun t3 => Pure.pure (!t3)) >>= fun t10 => if t10 = true then Pure.pure true else ((((Pure.pure a_point) >>= fun x4 => (Pure.pure []) >>= fun xs5 => Pure.pure (x4 :: xs5)) >>= fun xs6 => Mon.of (fLen xs6)) >>= fun x8 => ((Pure.pure a_form) >>= fun x7 => Mon.of (isI "Form" x7) >>= fun _ => Mon.nx (m_Form_places [x7])) >>= fun x9 => Mon.of (oNe x8 x9 >>= vBl))) >>= fun t11 => if t11 = true then (Mon.of .stuck) else (((((Pure.pure a_point) >>= fun x22 => (Pure.pure []) >>= fun xs23 => Pure.pure (x22 :: xs23)) >>= fun xs24 => Mon.of (vEnum xs24)) >>= fun xs25 => forM' (τ := Val) (fun st12 x13 => on2 x13 fun v_index14 v_place15 => ((((((Pure.pure v_place15) >>= fun x17 => (Pure.pure []) >>= fun xs18 => Pure.pure (x17 :: xs18)) >>= fun xs16 => m_is_integer xs16) >>= fun x19 => Mon.of (vTru x19)) >>= fun t20 => Pure.pure (!t20)) >>= fun t21 => if t21 = true then (Mon.of .stuck) else (Pure.pure (.nx (() : Unit))))) xs25 ()) >>= onlyNx >>= fun st26 => (Pure.pure .non)))
  | _ => Mon.of .stuck
def m_product_of : List Val → Res Val
  | [a_table, a_one, a_other] => ((Pure.pure (.int 0)) >>= fun v_total1 => (((((Pure.pure a_table) >>= fun x26 => ((Pure.pure a_one) >>= fun x24 => (Pure.pure []) >>= fun xs25 => Pure.pure (x24 :: xs25)) >>= fun xs27 => Pure.pure (x26 :: xs27)) >>= fun xs28 => Mon.of (vZip xs28)) >>= fun xs29 => forM' (τ := Val) (fun st2 x3 => on2 x3 fun v_row4 v_first5 => (((Pure.pure v_first5) >>= fun x20 => ((((((Pure.pure v_row4) >>= fun x10 => ((Pure.pure a_other) >>= fun x8 => (Pure.pure []) >>= fun xs9 => Pure.pure (x8 :: xs9)) >>= fun xs11 => Pure.pure (x10 :: xs11)) >>= fun xs12 => Mon.of (vZip xs12)) >>= fun xs13 => Mon.nx (mapM' (fun z_ => on2 z_ fun v15 v16 => ((Pure.pure v15) >>= fun x17 => (Pure.pure v16) >>= fun x18 => Mon.of (oMul x17 x18))) xs13) >>= fun ys14 => Mon.of (vLst ys14)) >>= fun x6 => (Pure.pure []) >>= fun xs7 => Pure.pure (x6 :: xs7)) >>= fun xs19 => Mon.of (fSum xs19)) >>= fun x21 => Mon.of (oMul x20 x21)) >>= fun x22 => Mon.of (ipOf (fun i j => i + j) st2 x22) >>= fun v_total23 => (Pure.pure (.nx (v_total23 : Val))))) xs29 v_total1) >>= onlyNx >>= fun st30 => (Pure.pure st30)))
  | _ => Mon.of .stuck
def m_Form_value : List Val → Res Val
  | [a_self, a_point] => ((((Pure.pure a_self) >>= fun x4 => ((Pure.pure a_point) >>= fun x2 => (Pure.pure []) >>= fun xs3 => Pure.pure (x2 :: xs3)) >>= fun xs5 => Pure.pure (x4 :: xs5)) >>= fun xs1 => m_check_point xs1) >>= fun _ => ((((Pure.pure a_self) >>= fun x13 => Mon.of (oFld ["Form"] "rows" x13)) >>= fun x11 => ((Pure.pure a_point) >>= fun x9 => ((Pure.pure a_point) >>= fun x7 => (Pure.pure []) >>= fun xs8 => Pure.pure (x7 :: xs8)) >>= fun xs10 => Pure.pure (x9 :: xs10)) >>= fun xs12 => Pure.pure (x11 :: xs12)) >>= fun xs6 => m_product_of xs6))
  | _ => Mon.of .stuck
def m_Form_product : List Val → Res Val
  | [a_self, a_one, a_two] => ((((Pure.pure a_self) >>= fun x4 => ((Pure.pure a_one) >>= fun x2 => (Pure.pure []) >>= fun xs3 => Pure.pure (x2 :: xs3)) >>= fun xs5 => Pure.pure (x4 :: xs5)) >>= fun xs1 => m_check_point xs1) >>= fun _ => ((((Pure.pure a_self) >>= fun x9 => ((Pure.pure a_two) >>= fun x7 => (Pure.pure []) >>= fun xs8 => Pure.pure (x7 :: xs8)) >>= fun xs10 => Pure.pure (x9 :: xs10)) >>= fun xs6 => m_check_point xs6) >>= fun _ => ((((Pure.pure a_self) >>= fun x18 => Mon.of (oFld ["Form"] "rows" x18)) >>= fun x16 => ((Pure.pure a_one) >>= fun x14 => ((Pure.pure a_two) >>= fun x12 => (Pure.pure []) >>= fun xs13 => Pure.pure (x12 :: xs13)) >>= fun xs15 => Pure.pure (x14 :: xs15)) >>= fun xs17 => Pure.pure (x16 :: xs17)) >>= fun xs11 => m_product_of xs11)))
  | _ => Mon.of .stuck
def m__law_right : List Val → M Val
  | [a_jar] => (((((Pure.pure (.int 4)) >>= fun x229 => (Pure.pure []) >>= fun xs230 => Pure.pure (x229 :: xs230)) >>= fun xs231 => Mon.of (vRange1 xs231)) >>= fun xs232 => forM' (τ := Val) (fun st1 x2 => ((((Pure.pure a_jar) >>= fun x8 => ((Pure.pure (.int 5)) >>= fun x6 => ((Pure.pure (.int 9)) >>= fun x4 => (Pure.pure []) >>= fun xs5 => Pure.pure (x4 :: xs5)) >>= fun xs7 => Pure.pure (x6 :: xs7)) >>= fun xs9 => Pure.pure (x8 :: xs9)) >>= fun xs3 => m__law_rows xs3) >>= fun v_rows10 => ((((Pure.pure v_rows10) >>= fun x12 => (Pure.pure []) >>= fun xs13 => Pure.pure (x12 :: xs13)) >>= fun xs11 => Mon.of (m__law_made xs11)) >>= fun v_mine17 => (((Pure.pure v_rows10) >>= fun x14 => (Pure.pure []) >>= fun xs15 => Pure.pure (x14 :: xs15)) >>= fun xs16 => Mon.of (fLen xs16)) >>= fun v_size18 => ((((((Pure.pure a_jar) >>= fun x31 => ((Pure.pure v_size18) >>= fun x29 => (Pure.pure []) >>= fun xs30 => Pure.pure (x29 :: xs30)) >>= fun xs32 => Pure.pure (x31 :: xs32)) >>= fun xs28 => m__law_point xs28) >>= fun x26 => ((((Pure.pure a_jar) >>= fun x24 => ((Pure.pure v_size18) >>= fun x22 => (Pure.pure []) >>= fun xs23 => Pure.pure (x22 :: xs23)) >>= fun xs25 => Pure.pure (x24 :: xs25)) >>= fun xs21 => m__law_point xs21) >>= fun x19 => (Pure.pure []) >>= fun xs20 => Pure.pure (x19 :: xs20)) >>= fun xs27 => Pure.pure (x26 :: xs27)) >>= fun xs33 => Mon.of (vTup xs33)) >>= fun x34 => on2 x34 fun v_one35 v_two36 => (((((Pure.pure v_mine17) >>= fun x64 => Mon.of (isC "Form" "value" x64) >>= fun _ => ((Pure.pure v_one35) >>= fun x67 => (Pure.pure []) >>= fun xs68 => Pure.pure (x67 :: xs68)) >>= fun xs65 => Mon.of (m_Form_value (x64 :: xs65))) >>= fun x62 => (((Pure.pure v_mine17) >>= fun x57 => Mon.of (isC "Form" "value" x57) >>= fun _ => ((Pure.pure v_one35) >>= fun x60 => (Pure.pure []) >>= fun xs61 => Pure.pure (x60 :: xs61)) >>= fun zs59 => Mon.of (chkN 1 1 [x57] zs59) >>= fun _ => Mon.of (m_Form_value (pickL .non [0, 1] (x57 :: zs59)))) >>= fun x55 => (((Pure.pure v_mine17) >>= fun x48 => Mon.of (isC "Form" "product" x48) >>= fun _ => ((Pure.pure v_one35) >>= fun x53 => ((Pure.pure v_two36) >>= fun x51 => (Pure.pure []) >>= fun xs52 => Pure.pure (x51 :: xs52)) >>= fun xs54 => Pure.pure (x53 :: xs54)) >>= fun xs49 => Mon.of (m_Form_product (x48 :: xs49))) >>= fun x46 => (((Pure.pure v_mine17) >>= fun x39 => Mon.of (isC "Form" "product" x39) >>= fun _ => ((Pure.pure v_two36) >>= fun x44 => ((Pure.pure v_one35) >>= fun x42 => (Pure.pure []) >>= fun xs43 => Pure.pure (x42 :: xs43)) >>= fun xs45 => Pure.pure (x44 :: xs45)) >>= fun zs41 => Mon.of (chkN 1 2 [x39] zs41) >>= fun _ => Mon.of (m_Form_product (pickL .non [0, 2, 1] (x39 :: zs41)))) >>= fun x37 => (Pure.pure []) >>= fun xs38 => Pure.pure (x37 :: xs38)) >>= fun xs47 => Pure.pure (x46 :: xs47)) >>= fun xs56 => Pure.pure (x55 :: xs56)) >>= fun xs63 => Pure.pure (x62 :: xs63)) >>= fun xs69 => Mon.of (vLst xs69)) >>= fun v_told70 => ((((Pure.pure v_rows10) >>= fun x76 => ((Pure.pure v_one35) >>= fun x74 => ((Pure.pure v_one35) >>= fun x72 => (Pure.pure []) >>= fun xs73 => Pure.pure (x72 :: xs73)) >>= fun xs75 => Pure.pure (x74 :: xs75)) >>= fun xs77 => Pure.pure (x76 :: xs77)) >>= fun xs71 => Mon.of (m__law_times xs71)) >>= fun v_first92 => (((Pure.pure v_rows10) >>= fun x83 => ((Pure.pure v_two36) >>= fun x81 => ((Pure.pure v_two36) >>= fun x79 => (Pure.pure []) >>= fun xs80 => Pure.pure (x79 :: xs80)) >>= fun xs82 => Pure.pure (x81 :: xs82)) >>= fun xs84 => Pure.pure (x83 :: xs84)) >>= fun xs78 => Mon.of (m__law_times xs78)) >>= fun v_last93 => (((Pure.pure v_rows10) >>= fun x90 => ((Pure.pure v_one35) >>= fun x88 => ((Pure.pure v_two36) >>= fun x86 => (Pure.pure []) >>= fun xs87 => Pure.pure (x86 :: xs87)) >>= fun xs89 => Pure.pure (x88 :: xs89)) >>= fun xs91 => Pure.pure (x90 :: xs91)) >>= fun xs85 => Mon.of (m__law_times xs85)) >>= fun v_both94 => ((((((Pure.pure v_told70) >>= fun x95 => (Pure.pure []) >>= fun xs96 => Pure.pure (x95 :: xs96)) >>= fun xs97 => Mon.of (fRepr xs97)) >>= fun x110 => (((((Pure.pure v_first92) >>= fun x106 => ((Pure.pure v_first92) >>= fun x104 => ((Pure.pure v_both94) >>= fun x102 => ((Pure.pure v_both94) >>= fun x100 => (Pure.pure []) >>= fun xs101 => Pure.pure (x100 :: xs101)) >>= fun xs103 => Pure.pure (x102 :: xs103)) >>= fun xs105 => Pure.pure (x104 :: xs105)) >>= fun xs107 => Pure.pure (x106 :: xs107)) >>= fun xs108 => Mon.of (vLst xs108)) >>= fun x98 => (Pure.pure []) >>= fun xs99 => Pure.pure (x98 :: xs99)) >>= fun xs109 => Mon.of (fRepr xs109)) >>= fun x111 => Mon.of (oNe x110 x111 >>= vBl)) >>= fun t121 => if t121 = true then Pure.pure true else (((Pure.pure v_mine17) >>= fun x112 => Mon.of (isC "Form" "product" x112) >>= fun _ => ((Pure.pure v_two36) >>= fun x117 => ((Pure.pure v_one35) >>= fun x115 => (Pure.pure []) >>= fun xs116 => Pure.pure (x115 :: xs116)) >>= fun xs118 => Pure.pure (x117 :: xs118)) >>= fun xs113 => Mon.of (m_Form_product (x112 :: xs113))) >>= fun x119 => (Pure.pure v_both94) >>= fun x120 => Mon.of (oNe x119 x120 >>= vBl))) >>= fun t122 => if t122 = true then ((Pure.pure (.bl false)) >>= fun v123 => Pure.pure (.rt v123)) else (((((((Pure.pure v_size18) >>= fun x126 => (Pure.pure []) >>= fun xs127 => Pure.pure (x126 :: xs127)) >>= fun xs128 => Mon.of (vRange1 xs128)) >>= fun xs129 => Mon.nx (mapM' (fun v131 => (((Pure.pure v_one35) >>= fun x132 => (Pure.pure v131) >>= fun x133 => ixM x132 x133) >>= fun x136 => ((Pure.pure v_two36) >>= fun x134 => (Pure.pure v131) >>= fun x135 => ixM x134 x135) >>= fun x137 => Mon.of (oAdd x136 x137))) xs129) >>= fun ys130 => Mon.of (vLst ys130)) >>= fun x124 => (Pure.pure []) >>= fun xs125 => Pure.pure (x124 :: xs125)) >>= fun xs138 => Mon.of (fTuple xs138)) >>= fun v_added139 => ((((Pure.pure v_mine17) >>= fun x140 => Mon.of (isC "Form" "value" x140) >>= fun _ => ((Pure.pure v_added139) >>= fun x143 => (Pure.pure []) >>= fun xs144 => Pure.pure (x143 :: xs144)) >>= fun xs141 => Mon.of (m_Form_value (x140 :: xs141))) >>= fun x151 => (((Pure.pure v_first92) >>= fun x147 => ((Pure.pure (.int 2)) >>= fun x145 => (Pure.pure v_both94) >>= fun x146 => Mon.of (oMul x145 x146)) >>= fun x148 => Mon.of (oAdd x147 x148)) >>= fun x149 => (Pure.pure v_last93) >>= fun x150 => Mon.of (oAdd x149 x150)) >>= fun x152 => Mon.of (oNe x151 x152 >>= vBl)) >>= fun t153 => if t153 = true then ((Pure.pure (.bl false)) >>= fun v154 => Pure.pure (.rt v154)) else ((((Pure.pure a_jar) >>= fun x173 => ((((Pure.pure (.int 0)) >>= fun x170 => (((Pure.pure (.int 1)) >>= fun x169 => Mon.of (oNeg x169)) >>= fun x167 => ((Pure.pure (.int 3)) >>= fun x165 => (((Pure.pure (.int 20)) >>= fun x164 => Mon.of (oNeg x164)) >>= fun x162 => (((Pure.pure (.int 10)) >>= fun x160 => (Pure.pure (.int 15)) >>= fun x161 => Mon.of (oPow x160 x161)) >>= fun x158 => (Pure.pure []) >>= fun xs159 => Pure.pure (x158 :: xs159)) >>= fun xs163 => Pure.pure (x162 :: xs163)) >>= fun xs166 => Pure.pure (x165 :: xs166)) >>= fun xs168 => Pure.pure (x167 :: xs168)) >>= fun xs171 => Pure.pure (x170 :: xs171)) >>= fun xs172 => Mon.of (vLst xs172)) >>= fun x156 => (Pure.pure []) >>= fun xs157 => Pure.pure (x156 :: xs157)) >>= fun xs174 => Pure.pure (x173 :: xs174)) >>= fun xs155 => m__law_one_of xs155) >>= fun v_many175 => ((((Pure.pure v_mine17) >>= fun x176 => Mon.of (isC "Form" "value" x176) >>= fun _ => ((((((Pure.pure v_one35) >>= fun x183 => Mon.of (vIter x183)) >>= fun xs184 => Mon.nx (mapM' (fun v186 => ((Pure.pure v_many175) >>= fun x187 => (Pure.pure v186) >>= fun x188 => Mon.of (oMul x187 x188))) xs184) >>= fun ys185 => Mon.of (vLst ys185)) >>= fun x181 => (Pure.pure []) >>= fun xs182 => Pure.pure (x181 :: xs182)) >>= fun xs189 => Mon.of (fTuple xs189)) >>= fun x179 => (Pure.pure []) >>= fun xs180 => Pure.pure (x179 :: xs180)) >>= fun xs177 => Mon.of (m_Form_value (x176 :: xs177))) >>= fun x194 => (((Pure.pure v_many175) >>= fun x190 => (Pure.pure v_many175) >>= fun x191 => Mon.of (oMul x190 x191)) >>= fun x192 => (Pure.pure v_first92) >>= fun x193 => Mon.of (oMul x192 x193)) >>= fun x195 => Mon.of (oNe x194 x195 >>= vBl)) >>= fun t196 => if t196 = true then ((Pure.pure (.bl false)) >>= fun v197 => Pure.pure (.rt v197)) else ((((((Pure.pure v_mine17) >>= fun x198 => Mon.of (isC "Form" "value" x198) >>= fun _ => ((Pure.pure v_one35) >>= fun x201 => (Pure.pure []) >>= fun xs202 => Pure.pure (x201 :: xs202)) >>= fun xs199 => Mon.of (m_Form_value (x198 :: xs199))) >>= fun x203 => (Pure.pure (.int 0)) >>= fun x204 => Mon.of (oGt x203 x204)) >>= fun x212 => ((Pure.pure v_one35) >>= fun x210 => ((((Pure.pure (.int 0)) >>= fun x205 => (Pure.pure []) >>= fun xs206 => Pure.pure (x205 :: xs206)) >>= fun xs207 => Mon.of (vTup xs207)) >>= fun x208 => (Pure.pure v_size18) >>= fun x209 => Mon.of (oMul x208 x209)) >>= fun x211 => Mon.of (oNe x210 x211)) >>= fun x213 => Mon.of (oNe x212 x213 >>= vBl)) >>= fun t226 => if t226 = true then Pure.pure true else (((Pure.pure v_mine17) >>= fun x214 => Mon.of (isC "Form" "value" x214) >>= fun _ => (((((Pure.pure (.int 0)) >>= fun x219 => (Pure.pure []) >>= fun xs220 => Pure.pure (x219 :: xs220)) >>= fun xs221 => Mon.of (vTup xs221)) >>= fun x222 => (Pure.pure v_size18) >>= fun x223 => Mon.of (oMul x222 x223)) >>= fun x217 => (Pure.pure []) >>= fun xs218 => Pure.pure (x217 :: xs218)) >>= fun xs215 => Mon.of (m_Form_value (x214 :: xs215))) >>= fun x224 => (Pure.pure (.int 0)) >>= fun x225 => Mon.of (oNe x224 x225 >>= vBl))) >>= fun t227 => if t227 = true then ((Pure.pure (.bl false)) >>= fun v228 => Pure.pure (.rt v228)) else (Pure.pure (.nx (() : Unit))))))))))))))) xs232 ()) >>= nxRt >>= orRt (fun st233 => (Pure.pure (.bl true))) id)
  | _ => Mon.of .stuck
def m__law_jar : List Val → M Val
  | [a_cells, a_turn] => ((((Pure.pure a_turn) >>= fun x4 => (((Pure.pure a_cells) >>= fun x1 => (Pure.pure []) >>= fun xs2 => Pure.pure (x1 :: xs2)) >>= fun xs3 => Mon.of (fLen xs3)) >>= fun x5 => Mon.of (oLt x4 x5 >>= vBl)) >>= fun t12 => if t12 = true then ((Pure.pure a_cells) >>= fun x6 => (Pure.pure a_turn) >>= fun x7 => ixM x6 x7) else (((Pure.pure (.int 17)) >>= fun x8 => (Pure.pure a_turn) >>= fun x9 => Mon.of (oMul x8 x9)) >>= fun x10 => (Pure.pure (.int 5)) >>= fun x11 => Mon.of (oAdd x10 x11))) >>= fun v_cell13 => (((Pure.pure (.int 80021)) >>= fun x16 => ((Pure.pure (.int 7019)) >>= fun x14 => (Pure.pure a_turn) >>= fun x15 => Mon.of (oMul x14 x15)) >>= fun x17 => Mon.of (oAdd x16 x17)) >>= fun v_mixed18 => ((((((Pure.pure a_cells) >>= fun x31 => (Pure.pure none) >>= fun l33 => ((Pure.pure (.int 5)) >>= fun x32 => Mon.of (asInt x32)) >>= fun h34 => Mon.of (oSl x31 l33 h34)) >>= fun x38 => (((Pure.pure v_cell13) >>= fun x35 => (Pure.pure []) >>= fun xs36 => Pure.pure (x35 :: xs36)) >>= fun xs37 => Mon.of (vLst xs37)) >>= fun x39 => Mon.of (oAdd x38 x39)) >>= fun x40 => Mon.of (vIter x40)) >>= fun xs41 => forM' (τ := Val) (fun st19 x20 => (((((((Pure.pure st19) >>= fun x23 => (Pure.pure (.int 25117)) >>= fun x24 => Mon.of (oMul x23 x24)) >>= fun x25 => (Pure.pure x20) >>= fun x26 => Mon.of (oAdd x25 x26)) >>= fun x21 => (Pure.pure []) >>= fun xs22 => Pure.pure (x21 :: xs22)) >>= fun xs27 => Mon.of (fInt xs27)) >>= fun x28 => (Pure.pure (.int 2147483029)) >>= fun x29 => Mon.of (oMod x28 x29)) >>= fun v_mixed30 => (Pure.pure (.nx (v_mixed30 : Val))))) xs41 v_mixed18) >>= onlyNx >>= fun st42 => ((((((Pure.pure v_cell13) >>= fun x49 => (Pure.pure (.int 0)) >>= fun x50 => Mon.of (oLt x49 x50 >>= vBl)) >>= fun t55 => if t55 = true then Pure.pure true else ((Pure.pure v_cell13) >>= fun x53 => ((Pure.pure (.int 10)) >>= fun x51 => (Pure.pure (.int 18)) >>= fun x52 => Mon.of (oPow x51 x52)) >>= fun x54 => Mon.of (oGe x53 x54 >>= vBl))) >>= fun t59 => if t59 = true then (((Pure.pure v_cell13) >>= fun x56 => (Pure.pure []) >>= fun xs57 => Pure.pure (x56 :: xs57)) >>= fun xs58 => Mon.of (fAbs xs58)) else (Pure.pure (.int 0))) >>= fun x47 => ((Pure.pure st42) >>= fun x45 => ((Pure.pure (.int 0)) >>= fun x43 => (Pure.pure []) >>= fun xs44 => Pure.pure (x43 :: xs44)) >>= fun xs46 => Pure.pure (x45 :: xs46)) >>= fun xs48 => Pure.pure (x47 :: xs48)) >>= fun xs60 => newC xs60))))
  | _ => Mon.of .stuck
def m_law : List Val → M Val
  | [a_cells] => ((((((((Pure.pure (.int 2)) >>= fun x15 => ((((((Pure.pure a_cells) >>= fun x11 => (Pure.pure []) >>= fun xs12 => Pure.pure (x11 :: xs12)) >>= fun xs13 => Mon.of (fLen xs13)) >>= fun x9 => ((Pure.pure (.int 6)) >>= fun x7 => (Pure.pure []) >>= fun xs8 => Pure.pure (x7 :: xs8)) >>= fun xs10 => Pure.pure (x9 :: xs10)) >>= fun xs14 => Mon.of (fMin xs14)) >>= fun x5 => (Pure.pure []) >>= fun xs6 => Pure.pure (x5 :: xs6)) >>= fun xs16 => Pure.pure (x15 :: xs16)) >>= fun xs17 => Mon.of (fMax xs17)) >>= fun x3 => (Pure.pure []) >>= fun xs4 => Pure.pure (x3 :: xs4)) >>= fun xs18 => Mon.of (vRange1 xs18)) >>= fun xs19 => Mon.nx (mapM' (fun v21 => (((((Pure.pure a_cells) >>= fun x28 => ((Pure.pure v21) >>= fun x26 => (Pure.pure []) >>= fun xs27 => Pure.pure (x26 :: xs27)) >>= fun xs29 => Pure.pure (x28 :: xs29)) >>= fun xs25 => m__law_jar xs25) >>= fun x23 => (Pure.pure []) >>= fun xs24 => Pure.pure (x23 :: xs24)) >>= fun xs22 => m__law_right xs22)) xs19) >>= fun ys20 => Mon.of (vLst ys20)) >>= fun x1 => (Pure.pure []) >>= fun xs2 => Pure.pure (x1 :: xs2)) >>= fun xs30 => Mon.of (fAll xs30))
  | _ => Mon.of .stuck
end K05

/-! plain mirrors, printed by gen.py -/
namespace K05
open PySem PySem.Spec PyProof.Rows L2 Tv
def l__law_square_rows_1 (v10 : Val) (a_factors : Val) : (Val) → Res (Val) := fun v16 => (oEq v10 v16 >>= vBl) >>= fun t21 =>
  if t21 = true then
    (oIx a_factors v10)
  else
    (Pure.pure (.int 0))
def l__law_square_rows_2 (v_size4 : Val) (a_factors : Val) : (Val) → Res (Val) := fun v10 => vRange1 [v_size4] >>= fun xs14 =>
  Mon.nx (mapM' (l__law_square_rows_1 v10 a_factors) xs14) >>= fun ys15 =>
  vLst ys15
def n__law_square_rows (a_factors : Val) : Res Val :=
  fLen [a_factors] >>= fun v_size4 =>
  vRange1 [v_size4] >>= fun xs8 =>
  Mon.nx (mapM' (l__law_square_rows_2 v_size4 a_factors) xs8) >>= fun ys9 =>
  vLst ys9
theorem q__law_square_rows (a_factors : Val) : m__law_square_rows [a_factors] = n__law_square_rows a_factors := (rfl)
def n__law_dip (a_jar a_top : Val) : M Val :=
  (ixM a_jar (.int 2) >>= fun x3 => Mon.of (oAdd x3 (.int 1))) >>= fun x5 =>
  setM a_jar (.int 2) x5 >>= fun _ =>
  (ixM a_jar (.int 0) >>= fun x10 => Mon.of (oGt x10 (.int 0) >>= vBl)) >>= fun t12 =>
  if t12 = true then
    (((ixM a_jar (.int 0) >>= fun x15 => Pure.pure [x15, a_top]) >>= fun xs19 => Mon.of (fDivmod xs19)) >>= fun x20 =>
    on2 x20 (fun x21 v_digit22 => setM a_jar (.int 0) x21 >>= fun _ => Pure.pure v_digit22))
  else
    ((((((ixM a_jar (.int 1) >>= fun x29 => Mon.of (oMul x29 (.int 48271))) >>= fun x35 => (ixM a_jar (.int 2) >>= fun x34 => Mon.of (oMul (.int 50021) x34)) >>= fun x36 => Mon.of (oAdd x35 x36)) >>= fun x25 => Pure.pure [x25]) >>= fun xs37 => Mon.of (fInt xs37)) >>= fun x38 => Mon.of (oMod x38 (.int 2147483399))) >>= fun x40 =>
    setM a_jar (.int 1) x40 >>= fun _ =>
    (((ixM a_jar (.int 1) >>= fun x47 => Mon.of (oFdiv x47 (.int 512))) >>= fun x43 => Pure.pure [x43]) >>= fun xs49 => Mon.of (fInt xs49)) >>= fun x50 =>
    Mon.of (oMod x50 a_top))
theorem q__law_dip (a_jar a_top : Val) : m__law_dip [a_jar, a_top] = n__law_dip a_jar a_top := (rfl)
def l__law_spun_1 : (Val) → Res (List Val) := fun v4 => seqL v4
def l__law_spun_2 (a_two : Val) (a_one : Val) (a_many : Val) : (List (List Val)) → (Val) → Res (Fl (List (List Val)) Val) := fun st7 x8 => ((rowOf st7 x8 >>= fun xs10 => ixL xs10 a_two) >>= fun x17 => ((rowOf st7 x8 >>= fun xs13 => ixL xs13 a_one) >>= fun x16 => oMul a_many x16) >>= fun x18 => oAdd x17 x18) >>= fun x19 =>
  rowOf st7 x8 >>= fun _ =>
  setRow st7 x8 a_two x19 >>= fun oo22 =>
  Pure.pure (.nx (oo22 : List ( List Val )))
def l__law_spun_3 (a_two : Val) (a_one : Val) (a_many : Val) : (List (List Val)) → (Val) → Res (Fl (List (List Val)) Val) := fun st31 x32 => ((rowOf st31 a_two >>= fun xs34 => ixL xs34 x32) >>= fun x41 => ((rowOf st31 a_one >>= fun xs37 => ixL xs37 x32) >>= fun x40 => oMul a_many x40) >>= fun x42 => oAdd x41 x42) >>= fun x43 =>
  rowOf st31 a_two >>= fun _ =>
  setRow st31 a_two x32 x43 >>= fun oo46 =>
  Pure.pure (.nx (oo46 : List ( List Val )))
def n__law_spun (a_rows a_one a_two a_many : Val) : Res Val :=
  (vIter a_rows >>= fun xs2 => Mon.nx (mapO l__law_spun_1 xs2) >>= fun ys3 => vLst2 ys3) >>= fun oo6 =>
  ((((fLen [a_rows] >>= fun x23 => Pure.pure [x23]) >>= fun xs28 => vRange1 xs28) >>= fun xs29 => forM' (τ := Val) (l__law_spun_2 a_two a_one a_many) xs29 oo6) >>= onlyNx) >>= fun st30 =>
  ((((fLen [a_rows] >>= fun x47 => Pure.pure [x47]) >>= fun xs52 => vRange1 xs52) >>= fun xs53 => forM' (τ := Val) (l__law_spun_3 a_two a_one a_many) xs53 st30) >>= onlyNx) >>= fun st54 =>
  Pure.pure (.lst (List.map Val.lst st54))
theorem q__law_spun (a_rows a_one a_two a_many : Val) : m__law_spun [a_rows, a_one, a_two, a_many] = n__law_spun a_rows a_one a_two a_many := (rfl)
def n__law_one_of (a_jar a_some : Val) : M Val :=
  (((Mon.of (fLen [a_some]) >>= fun x3 => Pure.pure [x3]) >>= fun xs9 => Pure.pure (a_jar :: xs9)) >>= fun xs2 => m__law_dip xs2) >>= fun x10 =>
  ixM a_some x10
theorem q__law_one_of (a_jar a_some : Val) : m__law_one_of [a_jar, a_some] = n__law_one_of a_jar a_some := (rfl)
def l__law_det_1 (x7 : Val) : (Val) → Res (Val) := fun v15 => (asInt x7 >>= fun h19 => oSl v15 none h19) >>= fun x26 =>
  ((oAdd x7 (.int 1) >>= fun x23 => asInt x23) >>= fun l24 => oSl v15 l24 none) >>= fun x27 =>
  oAdd x26 x27
def l__law_det_2 (a_rows : Val) (r_ : List Val → Res Val) : (Val) → (Val) → Res (Fl (Val) Val) := fun st6 x7 => (((asInt (.int 1) >>= fun l10 => oSl a_rows l10 none) >>= fun x12 => vIter x12) >>= fun xs13 => Mon.nx (mapM' (l__law_det_1 x7) xs13) >>= fun ys14 => vLst ys14) >>= fun v_rest28 =>
  (((((oAnd x7 (.int 1) >>= fun x32 => oMul (.int 2) x32) >>= fun x34 => oSub (.int 1) x34) >>= fun x39 => (oIx a_rows (.int 0) >>= fun x37 => oIx x37 x7) >>= fun x40 => oMul x39 x40) >>= fun x44 => r_ [v_rest28] >>= fun x45 => oMul x44 x45) >>= fun x47 => oAdd st6 x47) >>= fun v_total48 =>
  Pure.pure (.nx (v_total48 : Val))
def n__law_det (r_ : List Val → Res Val) (a_rows : Val) : Res Val :=
  (vLst [] >>= fun x3 => oEq a_rows x3 >>= vBl) >>= fun t4 =>
  if t4 = true then
    (Pure.pure (.int 1))
  else
    (((((fLen [a_rows] >>= fun x49 => Pure.pure [x49]) >>= fun xs54 => vRange1 xs54) >>= fun xs55 => forM' (τ := Val) (l__law_det_2 a_rows r_) xs55 (.int 0)) >>= onlyNx) >>= fun st56 =>
    Pure.pure st56)
theorem q__law_det (n_ : Nat) (a_rows : Val) : m__law_det (n_ + 1) [a_rows] = n__law_det (m__law_det n_) a_rows := (rfl)
def l__law_is_sure_1 (v15 : Val) : (Val) → Res (Val) := fun v26 => asInt v15 >>= fun h30 =>
  oSl v26 none h30
def l__law_is_sure_2 (a_rows : Val) : (Val) → Res (Val) := fun v15 => (((((asInt v15 >>= fun h22 => oSl a_rows none h22) >>= fun x23 => vIter x23) >>= fun xs24 => Mon.nx (mapM' (l__law_is_sure_1 v15) xs24) >>= fun ys25 => vLst ys25) >>= fun x17 => Pure.pure [x17]) >>= fun xs16 => m__law_det 8 xs16) >>= fun x31 =>
  oGt x31 (.int 0)
def n__law_is_sure (a_rows : Val) : Res Val :=
  ((((((fLen [a_rows] >>= fun x8 => oAdd x8 (.int 1)) >>= fun x3 => Pure.pure [x3]) >>= fun xs11 => Pure.pure ((.int 1) :: xs11)) >>= fun xs12 => vRange2 xs12) >>= fun xs13 => Mon.nx (mapM' (l__law_is_sure_2 a_rows) xs13) >>= fun ys14 => vLst ys14) >>= fun x1 => Pure.pure [x1]) >>= fun xs33 =>
  fAll xs33
theorem q__law_is_sure (a_rows : Val) : m__law_is_sure [a_rows] = n__law_is_sure a_rows := (rfl)
def l__law_greatest_1 : (Val) → Res (Val) := fun v12 => fAbs [v12]
def l__law_greatest_2 : (Val) → Res (Val) := fun v6 => ((vIter v6 >>= fun xs10 => Mon.nx (mapM' l__law_greatest_1 xs10) >>= fun ys11 => vLst ys11) >>= fun x7 => Pure.pure [x7]) >>= fun xs16 =>
  fMax xs16
def n__law_greatest (a_rows : Val) : Res Val :=
  ((vIter a_rows >>= fun xs4 => Mon.nx (mapM' l__law_greatest_2 xs4) >>= fun ys5 => vLst ys5) >>= fun x1 => Pure.pure [x1]) >>= fun xs17 =>
  fMax xs17
theorem q__law_greatest (a_rows : Val) : m__law_greatest [a_rows] = n__law_greatest a_rows := (rfl)
def l__law_rows_1 (a_jar : Val) (a_top : Val) : (Val) → M (Val) := fun v16 => m__law_dip [a_jar, a_top] >>= fun x23 =>
  Mon.of (oAdd (.int 1) x23)
def l__law_rows_2 (a_jar : Val) (a_top : Val) : (Val) → (Val) → M (Fl (Val) Val) := fun st25 x26 => (((Mon.of (fLen [st25]) >>= fun x28 => Pure.pure [x28]) >>= fun xs34 => Pure.pure (a_jar :: xs34)) >>= fun xs27 => m__law_dip xs27) >>= fun v_one35 =>
  ((((Mon.of (oAdd v_one35 (.int 1)) >>= fun x50 => ((((Mon.of (fLen [st25]) >>= fun x46 => Mon.of (oSub x46 (.int 1))) >>= fun x41 => Pure.pure [x41]) >>= fun xs49 => Pure.pure (a_jar :: xs49)) >>= fun xs40 => m__law_dip xs40) >>= fun x51 => Mon.of (oAdd x50 x51)) >>= fun x36 => Pure.pure [x36]) >>= fun xs52 => Mon.of (fInt xs52)) >>= fun x56 => Mon.of (fLen [st25]) >>= fun x57 => Mon.of (oMod x56 x57)) >>= fun v_two58 =>
  (((((((((((Mon.of (oNeg (.int 1)) >>= fun x72 => ((Mon.of (oNeg (.int 1)) >>= fun x67 => Pure.pure [x67, .int 2]) >>= fun xs71 => Pure.pure ((.int 1) :: xs71)) >>= fun xs73 => Pure.pure (x72 :: xs73)) >>= fun xs76 => Pure.pure ((.int 1) :: xs76)) >>= fun xs77 => Mon.of (vLst xs77)) >>= fun x63 => Pure.pure [x63]) >>= fun xs79 => Pure.pure (a_jar :: xs79)) >>= fun xs62 => m__law_one_of xs62) >>= fun x60 => Pure.pure [x60]) >>= fun xs81 => Pure.pure (v_two58 :: xs81)) >>= fun xs83 => Pure.pure (v_one35 :: xs83)) >>= fun xs85 => Pure.pure (st25 :: xs85)) >>= fun xs59 => Mon.of (m__law_spun xs59)) >>= fun v_fresh86 =>
  (((Mon.of (m__law_greatest [v_fresh86]) >>= fun x90 => Mon.of (oLt x90 (.int 300) >>= vBl)) >>= fun t94 => if t94 = true then Pure.pure true else Mon.of (oGt a_top (.int 40) >>= vBl)) >>= fun t95 => if t95 = true then Pure.pure v_fresh86 else Pure.pure st25) >>= fun v_rows96 =>
  Pure.pure (.nx (v_rows96 : Val))
def l__law_rows_3 : (Val) → M (List Val) := fun v150 => Mon.of (seqL v150)
def l__law_rows_4 (a_jar : Val) : (Val) → (Val) → M (Fl (Val) Val) := fun st113 x114 => (((Mon.of (fLen [st113]) >>= fun x116 => Pure.pure [x116]) >>= fun xs122 => Pure.pure (a_jar :: xs122)) >>= fun xs115 => m__law_dip xs115) >>= fun v_one123 =>
  ((((Mon.of (oAdd v_one123 (.int 1)) >>= fun x138 => ((((Mon.of (fLen [st113]) >>= fun x134 => Mon.of (oSub x134 (.int 1))) >>= fun x129 => Pure.pure [x129]) >>= fun xs137 => Pure.pure (a_jar :: xs137)) >>= fun xs128 => m__law_dip xs128) >>= fun x139 => Mon.of (oAdd x138 x139)) >>= fun x124 => Pure.pure [x124]) >>= fun xs140 => Mon.of (fInt xs140)) >>= fun x144 => Mon.of (fLen [st113]) >>= fun x145 => Mon.of (oMod x144 x145)) >>= fun v_two146 =>
  (Mon.of (vIter st113) >>= fun xs148 => Mon.nx (mapO l__law_rows_3 xs148) >>= fun ys149 => Mon.of (vLst2 ys149)) >>= fun oo152 =>
  ((Mon.of (rowOf oo152 v_one123) >>= fun xs154 => Mon.of (ixL xs154 v_two146)) >>= fun x156 => Mon.of (oAdd x156 (.int 1))) >>= fun x158 =>
  Mon.of (rowOf oo152 v_one123) >>= fun _ =>
  Mon.of (setRow oo152 v_one123 v_two146 x158) >>= fun oo161 =>
  (Mon.of (rowOf oo161 v_one123) >>= fun xs163 => Mon.of (ixL xs163 v_two146)) >>= fun x165 =>
  Mon.of (rowOf oo161 v_two146) >>= fun _ =>
  Mon.of (setRow oo161 v_two146 v_one123 x165) >>= fun oo168 =>
  ((Mon.of (m__law_is_sure [.lst (List.map Val.lst oo168)]) >>= fun x172 => Mon.of (vTru x172)) >>= fun t173 => if t173 = true then Pure.pure (.lst (List.map Val.lst oo168)) else Pure.pure st113) >>= fun v_rows174 =>
  Pure.pure (.nx (v_rows174 : Val))
def n__law_rows (a_jar a_most a_top : Val) : M Val :=
  ((((((m__law_dip [a_jar, a_most] >>= fun x12 => Mon.of (oAdd (.int 1) x12)) >>= fun x4 => Pure.pure [x4]) >>= fun xs13 => Mon.of (vRange1 xs13)) >>= fun xs14 => Mon.nx (mapM' (l__law_rows_1 a_jar a_top) xs14) >>= fun ys15 => Mon.of (vLst ys15)) >>= fun x2 => Pure.pure [x2]) >>= fun xs1 => Mon.of (m__law_square_rows xs1)) >>= fun v_rows24 =>
  ((((((Mon.of (fLen [v_rows24]) >>= fun x102 => Mon.of (oGt x102 (.int 1) >>= vBl)) >>= fun t109 => if t109 = true then m__law_dip [a_jar, .int 4] else Pure.pure (.int 0)) >>= fun x97 => Pure.pure [x97]) >>= fun xs110 => Mon.of (vRange1 xs110)) >>= fun xs111 => forM' (τ := Val) (l__law_rows_2 a_jar a_top) xs111 v_rows24) >>= onlyNx) >>= fun st112 =>
  ((((((Mon.of (fLen [st112]) >>= fun x180 => Mon.of (oGt x180 (.int 1) >>= vBl)) >>= fun t187 => if t187 = true then m__law_dip [a_jar, .int 3] else Pure.pure (.int 0)) >>= fun x175 => Pure.pure [x175]) >>= fun xs188 => Mon.of (vRange1 xs188)) >>= fun xs189 => forM' (τ := Val) (l__law_rows_4 a_jar) xs189 st112) >>= onlyNx) >>= fun st190 =>
  Pure.pure st190
theorem q__law_rows (a_jar a_most a_top : Val) : m__law_rows [a_jar, a_most, a_top] = n__law_rows a_jar a_most a_top := (rfl)
def n_is_integer (a_value : Val) : Res Val :=
  fIsB "int" a_value >>= fun x5 =>
  vTruV x5 >>= fun x6 =>
  if x6 = true then
    (fIsB "bool" a_value >>= fun x3 =>
    vTruV x3 >>= fun x4 =>
    Pure.pure (.bl (!x4)))
  else
    (Pure.pure x5)
theorem q_is_integer (a_value : Val) : m_is_integer [a_value] = n_is_integer a_value := (rfl)
def n_is_between (a_value a_low a_high : Val) : Res Val :=
  m_is_integer [a_value] >>= fun x8 =>
  vTruV x8 >>= fun x9 =>
  if x9 = true then
    ((oLe a_low a_value >>= vBl) >>= fun t7 =>
    if t7 = true then
      (oLe a_value a_high)
    else
      (Pure.pure (.bl false)))
  else
    (Pure.pure x8)
theorem q_is_between (a_value a_low a_high : Val) : m_is_between [a_value, a_low, a_high] = n_is_between a_value a_low a_high := (rfl)
def l_is_row_1 : (Val) → Res (Val) := fun v16 => ((oNeg (.int 1000) >>= fun x20 => Pure.pure [x20, .int 1000]) >>= fun xs24 => Pure.pure (v16 :: xs24)) >>= fun xs17 =>
  m_is_between xs17
def l_is_row_2 (a_rows : Val) (a_value : Val) : (Val) → Res (Val) := fun z_ => on2 z_ (fun v36 v37 => (fLen [a_rows] >>= fun x42 => oIx v37 x42) >>= fun x45 => oIx a_value v36 >>= fun x46 => oEq x45 x46)
def n_is_row (a_value a_rows a_places : Val) : Res Val :=
  (((fIsB "tuple" a_value >>= fun x2 => vTru x2) >>= fun t3 => Pure.pure (!t3)) >>= fun t9 => if t9 = true then Pure.pure true else fLen [a_value] >>= fun x7 => oNe x7 a_places >>= vBl) >>= fun t10 =>
  if t10 = true then
    (Pure.pure (.bl false))
  else
    ((((((vIter a_value >>= fun xs14 => Mon.nx (mapM' l_is_row_1 xs14) >>= fun ys15 => vLst ys15) >>= fun x11 => Pure.pure [x11]) >>= fun xs25 => fAll xs25) >>= fun x26 => vTru x26) >>= fun t27 => Pure.pure (!t27)) >>= fun t28 =>
    if t28 = true then
      (Pure.pure (.bl false))
    else
      (((vEnum [a_rows] >>= fun xs34 => Mon.nx (mapM' (l_is_row_2 a_rows a_value) xs34) >>= fun ys35 => vLst ys35) >>= fun x29 => Pure.pure [x29]) >>= fun xs47 =>
      fAll xs47))
theorem q_is_row (a_value a_rows a_places : Val) : m_is_row [a_value, a_rows, a_places] = n_is_row a_value a_rows a_places := (rfl)
def l_table_until_1 (a_table : Val) : (Unit) → (Val) → Res (Fl (Unit) Val) := fun st1 x2 => on2 x2 (fun v_index3 v_value4 => ((((((asInt v_index3 >>= fun h16 => oSl a_table none h16) >>= fun x11 => (fLen [a_table] >>= fun x6 => Pure.pure [x6]) >>= fun xs12 => Pure.pure (x11 :: xs12)) >>= fun xs18 => Pure.pure (v_value4 :: xs18)) >>= fun xs5 => m_is_row xs5) >>= fun x19 => vTru x19) >>= fun t20 => Pure.pure (!t20)) >>= fun t21 => if t21 = true then Pure.pure (.rt v_index3) else Pure.pure (.nx (() : Unit)))
def n_table_until (a_table : Val) : Res Val :=
  ((vEnum [a_table] >>= fun xs26 => forM' (τ := Val) (l_table_until_1 a_table) xs26 ()) >>= nxRt) >>= orRt (fun st27 => Pure.pure .non) id
theorem q_table_until (a_table : Val) : m_table_until [a_table] = n_table_until a_table := (rfl)
def l_determinant_of_1 (v_place8 : Val) : (Val) → Res (Val) := fun v22 => ((asInt v_place8 >>= fun h37 => oSl v22 none h37) >>= fun x32 => vSeq x32 >>= fun xs38 => (((oAdd v_place8 (.int 1) >>= fun x28 => asInt x28) >>= fun l29 => oSl v22 l29 none) >>= fun x23 => vSeq x23 >>= fun xs31 => Pure.pure (xs31 ++ [])) >>= fun xs33 => Pure.pure (xs38 ++ xs33)) >>= fun xs39 =>
  vTup xs39
def l_determinant_of_2 (a_rows : Val) (r_ : List Val → Res Val) : (Val) → (Val) → Res (Fl (Val) Val) := fun st6 x7 => on2 x7 (fun v_place8 v_entry9 => (oNe v_entry9 (.int 0) >>= vBl) >>= fun t12 => if t12 = true then (((((asInt (.int 1) >>= fun l17 => oSl a_rows l17 none) >>= fun x19 => vIter x19) >>= fun xs20 => Mon.nx (mapM' (l_determinant_of_1 v_place8) xs20) >>= fun ys21 => vLst ys21) >>= fun x13 => Pure.pure [x13]) >>= fun xs40 => fTuple xs40) >>= fun v_rest41 => (((oMod v_place8 (.int 2) >>= fun x44 => vTru x44) >>= fun t46 => if t46 = true then oNeg v_entry9 else Pure.pure v_entry9) >>= fun x50 => r_ [v_rest41] >>= fun x51 => oMul x50 x51) >>= fun x52 => ipOf (fun i j => i + j) st6 x52 >>= fun v_total53 => Pure.pure (.nx (v_total53 : Val)) else Pure.pure (.nx (st6 : Val)))
def n_determinant_of (r_ : List Val → Res Val) (a_rows : Val) : Res Val :=
  (vTup [] >>= fun x3 => oEq a_rows x3 >>= vBl) >>= fun t4 =>
  if t4 = true then
    (Pure.pure (.int 1))
  else
    (((((oIx a_rows (.int 0) >>= fun x54 => Pure.pure [x54]) >>= fun xs58 => vEnum xs58) >>= fun xs59 => forM' (τ := Val) (l_determinant_of_2 a_rows r_) xs59 (.int 0)) >>= onlyNx) >>= fun st60 =>
    Pure.pure st60)
theorem q_determinant_of (n_ : Nat) (a_rows : Val) : m_determinant_of (n_ + 1) [a_rows] = n_determinant_of (m_determinant_of n_) a_rows := (rfl)
def l_corner_of_1 (a_many : Val) : (Val) → Res (Val) := fun v10 => asInt a_many >>= fun h14 =>
  oSl v10 none h14
def n_corner_of (a_table a_many : Val) : Res Val :=
  ((((asInt a_many >>= fun h6 => oSl a_table none h6) >>= fun x7 => vIter x7) >>= fun xs8 => Mon.nx (mapM' (l_corner_of_1 a_many) xs8) >>= fun ys9 => vLst ys9) >>= fun x1 => Pure.pure [x1]) >>= fun xs15 =>
  fTuple xs15
theorem q_corner_of (a_table a_many : Val) : m_corner_of [a_table, a_many] = n_corner_of a_table a_many := (rfl)
def l_is_sure_1 (a_table : Val) : (Val) → Res (Val) := fun v15 => ((m_corner_of [a_table, v15] >>= fun x17 => Pure.pure [x17]) >>= fun xs16 => m_determinant_of 8 xs16) >>= fun x24 =>
  oGt x24 (.int 0)
def n_is_sure (a_table : Val) : Res Val :=
  ((((((fLen [a_table] >>= fun x8 => oAdd x8 (.int 1)) >>= fun x3 => Pure.pure [x3]) >>= fun xs11 => Pure.pure ((.int 1) :: xs11)) >>= fun xs12 => vRange2 xs12) >>= fun xs13 => Mon.nx (mapM' (l_is_sure_1 a_table) xs13) >>= fun ys14 => vLst ys14) >>= fun x1 => Pure.pure [x1]) >>= fun xs26 =>
  fAll xs26
theorem q_is_sure (a_table : Val) : m_is_sure [a_table] = n_is_sure a_table := (rfl)
def n_Form___init__ (a_table : Val) : Res (List (Str × Val)) :=
  (((fIsB "tuple" a_table >>= fun x2 => vTru x2) >>= fun t3 => Pure.pure (!t3)) >>= fun t12 => if t12 = true then Pure.pure true else (fLen [a_table] >>= fun x8 => (oLe (.int 1) x8 >>= vBl) >>= fun t10 => if t10 = true then oLe x8 (.int 5) >>= vBl else Pure.pure false) >>= fun t11 => Pure.pure (!t11)) >>= fun t13 =>
  if t13 = true then
    (.stuck)
  else
    (m_table_until [a_table] >>= fun v_index17 =>
    (oNotN v_index17 .non >>= vBl) >>= fun t20 =>
    if t20 = true then
      (.stuck)
    else
      (((m_is_sure [a_table] >>= fun x24 => vTru x24) >>= fun t25 => Pure.pure (!t25)) >>= fun t26 =>
      if t26 = true then
        (.stuck)
      else
        (m_determinant_of 8 [a_table] >>= fun v_total31 =>
        Pure.pure (putFv "total" v_total31 (putFv "rows" a_table [])))))
theorem q_Form___init__ (a_table : Val) : m_Form___init__ [a_table] = n_Form___init__ a_table := (rfl)
def l__law_table_1 : (Val) → Res (Val) := fun v6 => fTuple [v6]
def n__law_table (a_rows : Val) : Res Val :=
  ((vIter a_rows >>= fun xs4 => Mon.nx (mapM' l__law_table_1 xs4) >>= fun ys5 => vLst ys5) >>= fun x1 => Pure.pure [x1]) >>= fun xs10 =>
  fTuple xs10
theorem q__law_table (a_rows : Val) : m__law_table [a_rows] = n__law_table a_rows := (rfl)
def n__law_made (a_rows : Val) : Res Val :=
  (m__law_table [a_rows] >>= fun x3 => Pure.pure [x3]) >>= fun xs2 =>
  m_Form___init__ xs2 >>= fun fs1 =>
  Pure.pure (.obj "Form" fs1)
theorem q__law_made (a_rows : Val) : m__law_made [a_rows] = n__law_made a_rows := (rfl)
def l__law_point_1 (a_jar : Val) (v_menu32 : Val) : (Val) → M (Val) := fun v40 => m__law_one_of [a_jar, v_menu32]
def n__law_point (a_jar a_size : Val) : M Val :=
  ((((Mon.of (oNeg (.int 1)) >>= fun x24 => ((Mon.of (oNeg (.int 3)) >>= fun x19 => ((Mon.of (oPow (.int 10) (.int 25)) >>= fun x13 => ((Mon.of (oPow (.int 10) (.int 12)) >>= fun x12 => Mon.of (oNeg x12)) >>= fun x8 => (m__law_dip [a_jar, .int 999] >>= fun x1 => Pure.pure [x1]) >>= fun xs9 => Pure.pure (x8 :: xs9)) >>= fun xs14 => Pure.pure (x13 :: xs14)) >>= fun xs18 => Pure.pure ((.int 7) :: xs18)) >>= fun xs20 => Pure.pure (x19 :: xs20)) >>= fun xs23 => Pure.pure ((.int 2) :: xs23)) >>= fun xs25 => Pure.pure (x24 :: xs25)) >>= fun xs28 => Pure.pure ((.int 1) :: xs28)) >>= fun xs30 => Pure.pure ((.int 0) :: xs30)) >>= fun xs31 => Mon.of (vLst xs31)) >>= fun v_menu32 =>
  ((Mon.of (vRange1 [a_size]) >>= fun xs38 => Mon.nx (mapM' (l__law_point_1 a_jar v_menu32) xs38) >>= fun ys39 => Mon.of (vLst ys39)) >>= fun x33 => Pure.pure [x33]) >>= fun xs46 =>
  Mon.of (fTuple xs46)
theorem q__law_point (a_jar a_size : Val) : m__law_point [a_jar, a_size] = n__law_point a_jar a_size := (rfl)
def l__law_times_1 (a_rows : Val) (x3 : Val) (a_one : Val) (a_two : Val) : (Val) → (Val) → Res (Fl (Val) Val) := fun st4 x5 => ((((oIx a_rows x3 >>= fun x8 => oIx x8 x5) >>= fun x12 => oIx a_one x3 >>= fun x13 => oMul x12 x13) >>= fun x16 => oIx a_two x5 >>= fun x17 => oMul x16 x17) >>= fun x19 => oAdd st4 x19) >>= fun v_total20 =>
  Pure.pure (.nx (v_total20 : Val))
def l__law_times_2 (a_rows : Val) (a_one : Val) (a_two : Val) : (Val) → (Val) → Res (Fl (Val) Val) := fun st2 x3 => ((((fLen [a_rows] >>= fun x21 => Pure.pure [x21]) >>= fun xs26 => vRange1 xs26) >>= fun xs27 => forM' (τ := Val) (l__law_times_1 a_rows x3 a_one a_two) xs27 st2) >>= onlyNx) >>= fun st28 =>
  Pure.pure (.nx (st28 : Val))
def n__law_times (a_rows a_one a_two : Val) : Res Val :=
  ((((fLen [a_rows] >>= fun x29 => Pure.pure [x29]) >>= fun xs34 => vRange1 xs34) >>= fun xs35 => forM' (τ := Val) (l__law_times_2 a_rows a_one a_two) xs35 (.int 0)) >>= onlyNx) >>= fun st36 =>
  Pure.pure st36
theorem q__law_times (a_rows a_one a_two : Val) : m__law_times [a_rows, a_one, a_two] = n__law_times a_rows a_one a_two := (rfl)
def n_Form_places (a_self : Val) : Res Val :=
  (oFld ["Form"] "rows" a_self >>= fun x1 => Pure.pure [x1]) >>= fun xs4 =>
  fLen xs4
theorem q_Form_places (a_self : Val) : m_Form_places [a_self] = n_Form_places a_self := (rfl)
def l_check_point_1 : (Unit) → (Val) → Res (Fl (Unit) Val) := fun st12 x13 => on2 x13 (fun v_index14 v_place15 => ((m_is_integer [v_place15] >>= fun x19 => vTru x19) >>= fun t20 => Pure.pure (!t20)) >>= fun t21 => if t21 = true then .stuck else Pure.pure (.nx (() : Unit)))
def n_check_point (a_form a_point : Val) : Res Val :=
  (((fIsB "tuple" a_point >>= fun x2 => vTru x2) >>= fun t3 => Pure.pure (!t3)) >>= fun t10 => if t10 = true then Pure.pure true else fLen [a_point] >>= fun x8 => (isI "Form" a_form >>= fun _ => Mon.nx (m_Form_places [a_form])) >>= fun x9 => oNe x8 x9 >>= vBl) >>= fun t11 =>
  if t11 = true then
    (.stuck)
  else
    (((vEnum [a_point] >>= fun xs25 => forM' (τ := Val) l_check_point_1 xs25 ()) >>= onlyNx) >>= fun st26 =>
    Pure.pure .non)
theorem q_check_point (a_form a_point : Val) : m_check_point [a_form, a_point] = n_check_point a_form a_point := (rfl)
def l_product_of_1 : (Val) → Res (Val) := fun z_ => on2 z_ (fun v15 v16 => oMul v15 v16)
def l_product_of_2 (a_other : Val) : (Val) → (Val) → Res (Fl (Val) Val) := fun st2 x3 => on2 x3 (fun v_row4 v_first5 => ((((vZip [v_row4, a_other] >>= fun xs13 => Mon.nx (mapM' l_product_of_1 xs13) >>= fun ys14 => vLst ys14) >>= fun x6 => Pure.pure [x6]) >>= fun xs19 => fSum xs19) >>= fun x21 => oMul v_first5 x21) >>= fun x22 => ipOf (fun i j => i + j) st2 x22 >>= fun v_total23 => Pure.pure (.nx (v_total23 : Val)))
def n_product_of (a_table a_one a_other : Val) : Res Val :=
  ((vZip [a_table, a_one] >>= fun xs29 => forM' (τ := Val) (l_product_of_2 a_other) xs29 (.int 0)) >>= onlyNx) >>= fun st30 =>
  Pure.pure st30
theorem q_product_of (a_table a_one a_other : Val) : m_product_of [a_table, a_one, a_other] = n_product_of a_table a_one a_other := (rfl)
def n_Form_value (a_self a_point : Val) : Res Val :=
  m_check_point [a_self, a_point] >>= fun _ =>
  (oFld ["Form"] "rows" a_self >>= fun x11 => Pure.pure [x11, a_point, a_point]) >>= fun xs6 =>
  m_product_of xs6
theorem q_Form_value (a_self a_point : Val) : m_Form_value [a_self, a_point] = n_Form_value a_self a_point := (rfl)
def n_Form_product (a_self a_one a_two : Val) : Res Val :=
  m_check_point [a_self, a_one] >>= fun _ =>
  m_check_point [a_self, a_two] >>= fun _ =>
  (oFld ["Form"] "rows" a_self >>= fun x16 => Pure.pure [x16, a_one, a_two]) >>= fun xs11 =>
  m_product_of xs11
theorem q_Form_product (a_self a_one a_two : Val) : m_Form_product [a_self, a_one, a_two] = n_Form_product a_self a_one a_two := (rfl)
def l__law_right_1 (v_one35 : Val) (v_two36 : Val) : (Val) → M (Val) := fun v131 => ixM v_one35 v131 >>= fun x136 =>
  ixM v_two36 v131 >>= fun x137 =>
  Mon.of (oAdd x136 x137)
def l__law_right_2 (v_many175 : Val) : (Val) → M (Val) := fun v186 => Mon.of (oMul v_many175 v186)
def l__law_right_3 (a_jar : Val) : (Unit) → (Val) → M (Fl (Unit) Val) := fun st1 x2 => m__law_rows [a_jar, .int 5, .int 9] >>= fun v_rows10 =>
  Mon.of (m__law_made [v_rows10]) >>= fun v_mine17 =>
  Mon.of (fLen [v_rows10]) >>= fun v_size18 =>
  ((m__law_point [a_jar, v_size18] >>= fun x26 => (m__law_point [a_jar, v_size18] >>= fun x19 => Pure.pure [x19]) >>= fun xs27 => Pure.pure (x26 :: xs27)) >>= fun xs33 => Mon.of (vTup xs33)) >>= fun x34 =>
  on2 x34 (fun v_one35 v_two36 => (((Mon.of (isC "Form" "value" v_mine17) >>= fun _ => Mon.of (m_Form_value [v_mine17, v_one35])) >>= fun x62 => ((Mon.of (isC "Form" "value" v_mine17) >>= fun _ => Mon.of (chkN 1 1 [v_mine17] [v_one35]) >>= fun _ => Mon.of (m_Form_value [v_mine17, v_one35])) >>= fun x55 => ((Mon.of (isC "Form" "product" v_mine17) >>= fun _ => Mon.of (m_Form_product [v_mine17, v_one35, v_two36])) >>= fun x46 => ((Mon.of (isC "Form" "product" v_mine17) >>= fun _ => Mon.of (chkN 1 2 [v_mine17] [v_two36, v_one35]) >>= fun _ => Mon.of (m_Form_product [v_mine17, v_one35, v_two36])) >>= fun x37 => Pure.pure [x37]) >>= fun xs47 => Pure.pure (x46 :: xs47)) >>= fun xs56 => Pure.pure (x55 :: xs56)) >>= fun xs63 => Pure.pure (x62 :: xs63)) >>= fun xs69 => Mon.of (vLst xs69)) >>= fun v_told70 => Mon.of (m__law_times [v_rows10, v_one35, v_one35]) >>= fun v_first92 => Mon.of (m__law_times [v_rows10, v_two36, v_two36]) >>= fun v_last93 => Mon.of (m__law_times [v_rows10, v_one35, v_two36]) >>= fun v_both94 => ((Mon.of (fRepr [v_told70]) >>= fun x110 => ((Mon.of (vLst [v_first92, v_first92, v_both94, v_both94]) >>= fun x98 => Pure.pure [x98]) >>= fun xs109 => Mon.of (fRepr xs109)) >>= fun x111 => Mon.of (oNe x110 x111 >>= vBl)) >>= fun t121 => if t121 = true then Pure.pure true else (Mon.of (isC "Form" "product" v_mine17) >>= fun _ => Mon.of (m_Form_product [v_mine17, v_two36, v_one35])) >>= fun x119 => Mon.of (oNe x119 v_both94 >>= vBl)) >>= fun t122 => if t122 = true then Pure.pure (.rt (.bl false)) else (((Mon.of (vRange1 [v_size18]) >>= fun xs129 => Mon.nx (mapM' (l__law_right_1 v_one35 v_two36) xs129) >>= fun ys130 => Mon.of (vLst ys130)) >>= fun x124 => Pure.pure [x124]) >>= fun xs138 => Mon.of (fTuple xs138)) >>= fun v_added139 => ((Mon.of (isC "Form" "value" v_mine17) >>= fun _ => Mon.of (m_Form_value [v_mine17, v_added139])) >>= fun x151 => ((Mon.of (oMul (.int 2) v_both94) >>= fun x148 => Mon.of (oAdd v_first92 x148)) >>= fun x149 => Mon.of (oAdd x149 v_last93)) >>= fun x152 => Mon.of (oNe x151 x152 >>= vBl)) >>= fun t153 => if t153 = true then Pure.pure (.rt (.bl false)) else ((((((Mon.of (oNeg (.int 1)) >>= fun x167 => ((Mon.of (oNeg (.int 20)) >>= fun x162 => (Mon.of (oPow (.int 10) (.int 15)) >>= fun x158 => Pure.pure [x158]) >>= fun xs163 => Pure.pure (x162 :: xs163)) >>= fun xs166 => Pure.pure ((.int 3) :: xs166)) >>= fun xs168 => Pure.pure (x167 :: xs168)) >>= fun xs171 => Pure.pure ((.int 0) :: xs171)) >>= fun xs172 => Mon.of (vLst xs172)) >>= fun x156 => Pure.pure [x156]) >>= fun xs174 => Pure.pure (a_jar :: xs174)) >>= fun xs155 => m__law_one_of xs155) >>= fun v_many175 => ((Mon.of (isC "Form" "value" v_mine17) >>= fun _ => ((((Mon.of (vIter v_one35) >>= fun xs184 => Mon.nx (mapM' (l__law_right_2 v_many175) xs184) >>= fun ys185 => Mon.of (vLst ys185)) >>= fun x181 => Pure.pure [x181]) >>= fun xs189 => Mon.of (fTuple xs189)) >>= fun x179 => Pure.pure [x179]) >>= fun xs177 => Mon.of (m_Form_value (v_mine17 :: xs177))) >>= fun x194 => (Mon.of (oMul v_many175 v_many175) >>= fun x192 => Mon.of (oMul x192 v_first92)) >>= fun x195 => Mon.of (oNe x194 x195 >>= vBl)) >>= fun t196 => if t196 = true then Pure.pure (.rt (.bl false)) else ((((Mon.of (isC "Form" "value" v_mine17) >>= fun _ => Mon.of (m_Form_value [v_mine17, v_one35])) >>= fun x203 => Mon.of (oGt x203 (.int 0))) >>= fun x212 => ((Mon.of (vTup [.int 0]) >>= fun x208 => Mon.of (oMul x208 v_size18)) >>= fun x211 => Mon.of (oNe v_one35 x211)) >>= fun x213 => Mon.of (oNe x212 x213 >>= vBl)) >>= fun t226 => if t226 = true then Pure.pure true else (Mon.of (isC "Form" "value" v_mine17) >>= fun _ => ((Mon.of (vTup [.int 0]) >>= fun x222 => Mon.of (oMul x222 v_size18)) >>= fun x217 => Pure.pure [x217]) >>= fun xs215 => Mon.of (m_Form_value (v_mine17 :: xs215))) >>= fun x224 => Mon.of (oNe x224 (.int 0) >>= vBl)) >>= fun t227 => if t227 = true then Pure.pure (.rt (.bl false)) else Pure.pure (.nx (() : Unit)))
def n__law_right (a_jar : Val) : M Val :=
  ((Mon.of (vRange1 [.int 4]) >>= fun xs232 => forM' (τ := Val) (l__law_right_3 a_jar) xs232 ()) >>= nxRt) >>= orRt (fun st233 => Pure.pure (.bl true)) id
theorem q__law_right (a_jar : Val) : m__law_right [a_jar] = n__law_right a_jar := (rfl)
def l__law_jar_1 : (Val) → (Val) → M (Fl (Val) Val) := fun st19 x20 => ((((Mon.of (oMul st19 (.int 25117)) >>= fun x25 => Mon.of (oAdd x25 x20)) >>= fun x21 => Pure.pure [x21]) >>= fun xs27 => Mon.of (fInt xs27)) >>= fun x28 => Mon.of (oMod x28 (.int 2147483029))) >>= fun v_mixed30 =>
  Pure.pure (.nx (v_mixed30 : Val))
def n__law_jar (a_cells a_turn : Val) : M Val :=
  ((Mon.of (fLen [a_cells]) >>= fun x5 => Mon.of (oLt a_turn x5 >>= vBl)) >>= fun t12 => if t12 = true then ixM a_cells a_turn else Mon.of (oMul (.int 17) a_turn) >>= fun x10 => Mon.of (oAdd x10 (.int 5))) >>= fun v_cell13 =>
  (Mon.of (oMul (.int 7019) a_turn) >>= fun x17 => Mon.of (oAdd (.int 80021) x17)) >>= fun v_mixed18 =>
  (((((Mon.of (asInt (.int 5)) >>= fun h34 => Mon.of (oSl a_cells none h34)) >>= fun x38 => Mon.of (vLst [v_cell13]) >>= fun x39 => Mon.of (oAdd x38 x39)) >>= fun x40 => Mon.of (vIter x40)) >>= fun xs41 => forM' (τ := Val) l__law_jar_1 xs41 v_mixed18) >>= onlyNx) >>= fun st42 =>
  (((Mon.of (oLt v_cell13 (.int 0) >>= vBl) >>= fun t55 => if t55 = true then Pure.pure true else Mon.of (oPow (.int 10) (.int 18)) >>= fun x54 => Mon.of (oGe v_cell13 x54 >>= vBl)) >>= fun t59 => if t59 = true then Mon.of (fAbs [v_cell13]) else Pure.pure (.int 0)) >>= fun x47 => Pure.pure [x47, st42, .int 0]) >>= fun xs60 =>
  newC xs60
theorem q__law_jar (a_cells a_turn : Val) : m__law_jar [a_cells, a_turn] = n__law_jar a_cells a_turn := (rfl)
def l_law_1 (a_cells : Val) : (Val) → M (Val) := fun v21 => (m__law_jar [a_cells, v21] >>= fun x23 => Pure.pure [x23]) >>= fun xs22 =>
  m__law_right xs22
def n_law (a_cells : Val) : M Val :=
  (((((((((Mon.of (fLen [a_cells]) >>= fun x9 => Pure.pure [x9, .int 6]) >>= fun xs14 => Mon.of (fMin xs14)) >>= fun x5 => Pure.pure [x5]) >>= fun xs16 => Pure.pure ((.int 2) :: xs16)) >>= fun xs17 => Mon.of (fMax xs17)) >>= fun x3 => Pure.pure [x3]) >>= fun xs18 => Mon.of (vRange1 xs18)) >>= fun xs19 => Mon.nx (mapM' (l_law_1 a_cells) xs19) >>= fun ys20 => Mon.of (vLst ys20)) >>= fun x1 => Pure.pure [x1]) >>= fun xs30 =>
  Mon.of (fAll xs30)
theorem q_law (a_cells : Val) : m_law [a_cells] = n_law a_cells := (rfl)
end K05

/-! the package's determinant, corners, sure tables -/
namespace K05
open PySem PySem.Spec PyProof.Rows L2 Tv Mt

theorem sgOdd (k : Nat) (e : Int) : (if decide ((k : Int) % 2 ≠ 0) = true then -e else e) = sg k * e := by
  unfold sg
  by_cases h : k % 2 = 0
  · rw [if_pos h, if_neg (by simp; omega), Int.one_mul]
  · rw [if_neg h, if_pos (by simp; omega)]; omega
theorem det_one_ok {k : Nat} {p : List Int} (hp : p.length < 1000) : l_determinant_of_1 (.int k) (vr p) = .ok (vr (cut k p)) := by
  unfold l_determinant_of_1
  rw [qAsInt, qOk, qSlTt, qOk, qSqT, qOk, qAdd, qOk, qAsInt, qOk]
  have e : ((k : Int) + 1) = ((k + 1 : Nat) : Int) := by omega
  rw [e, qSlTd, qOk, qSqT, qOk, qPure, List.append_nil, qPure, qTup]
  · show Res.ok (Val.tup _) = _
    unfold cut
    rw [← List.map_take, ← List.map_drop, ← List.map_append]
  · rw [List.length_append, List.length_take, List.length_drop, List.length_map]
    omega
theorem det_ok {b : Int} (hb : b < 18446744073709551616) : ∀ {n f : Nat} {rows : List (List Int)}, n < f → n < 1000 → Sqr n rows → Bd b rows → m_determinant_of f [tt rows] = .ok (.int (det n (mx rows)))
  | n, 0, _, h, _, _, _ => absurd h (Nat.not_lt_zero _)
  | 0, f + 1, rows, _, _, sq, _ => by
    have : rows = [] := List.length_eq_zero_iff.mp sq.len
    subst this
    rw [q_determinant_of]
    unfold n_determinant_of
    rw [qTup (Nat.zero_le _), qOk]
    have e : oEq (tt []) (.tup []) = .ok (.bl true) := eqSame (x := .tup []) (dt_ok (dt_tt 0 []) (by decide))
    rw [e, qOk, qBl, qOk]
    rfl
  | n + 1, f + 1, rows, hf, hn, sq, bd => by
    cases rows with
    | nil => exact absurd sq.len (by simp)
    | cons r rs =>
      have hr : r.length = n + 1 := sq.all r List.mem_cons_self
      have hrs : rs.length = n := by have := sq.len; rw [List.length_cons] at this; omega
      rw [q_determinant_of]
      unfold n_determinant_of
      have e0 : oEq (tt (r :: rs)) (.tup []) = .ok (.bl false) := by
        have q := (eqT_ok (dt_tt 0 (r :: rs)) (dt_tt 0 []) (by decide) (by decide)).1
        rwa [show eqT (tt (r :: rs)) (tt []) = false from eqT_ne0 _ _] at q
      rw [qTup (Nat.zero_le _), qOk, e0, qOk, qBl, qOk, if_neg (by decide)]
      have e1 : oIx (tt (r :: rs)) (.int 0) = .ok (vr r) := by
        rw [qIxT]
        exact qIx (i := 0) rfl
      rw [e1, qOk, qPure]
      have e2 : vEnum [vr r] = .ok (enum0 0 (r.map Val.int)) := rfl
      rw [e2, qOk, sumLoop (f := fun k => sg k * mx (r :: rs) 0 k * det n (mi k (mx (r :: rs)))), qOk, qOnly, qOk]
      · rw [enum0_length, List.length_map, hr, Int.zero_add]
        rfl
      · intro k x t hk
        obtain ⟨y, hy, rfl⟩ := enum0_at hk
        obtain ⟨e, he, rfl⟩ := map_at hy
        have hkl : k < n + 1 := by have := (List.getElem?_eq_some_iff.mp he).1; omega
        rw [Nat.zero_add]
        have em : mx (r :: rs) 0 k = e := by
          show r.getD k 0 = e
          rw [List.getD_eq_getElem?_getD, he]; rfl
        have hbe : smallB e = true := smB hb (bd r List.mem_cons_self e (List.mem_of_getElem? he))
        unfold l_determinant_of_2
        rw [q2, qNeI, qOk, qBl, qOk]
        by_cases z : e = 0
        · subst z
          rw [em]
          show Res.ok (Fl.nx (Val.int t)) = _
          rw [Int.mul_zero, Int.zero_mul, Int.add_zero]
        · rw [if_pos (by simp [z]), qAsInt, qOk]
          have e3 : oSl (tt (r :: rs)) (some 1) none = .ok (.tup (rs.map vr)) := qSlTd _ 1
          rw [e3, qOk, qItT, qOk, mapOf (g := fun p => vr (cut k p)) (fun p hp => det_one_ok (by rw [sq.all p (List.mem_cons_of_mem _ hp)]; omega)), qNxOk, qOk, qLst (by rw [List.length_map]; omega), qOk, qPure, qTupL, qOk, qMod _ (by decide), qOk]
          have e4 : vTru (.int ((k : Int) % 2)) = .ok (decide ((k : Int) % 2 ≠ 0)) := by
            show Res.ok ((k : Int) % 2 != 0) = _
            congr 1
            by_cases z : (k : Int) % 2 = 0 <;> simp [z]
          rw [e4, qOk]
          have e5 : (if decide ((k : Int) % 2 ≠ 0) = true then oNeg (.int e) else (Pure.pure (Val.int e) : Res Val)) = .ok (.int (sg k * e)) := by
            rw [← sgOdd]
            split
            · exact qNeg e
            · rfl
          have hb2 : smallB (sg k * e) = true := by
            have q := bd r List.mem_cons_self e (List.mem_of_getElem? he)
            refine smB hb ?_
            unfold sg
            split <;> omega
          have e6 : Val.tup (rs.map fun p => vr (cut k p)) = tt (rs.map (cut k)) := by
            show _ = Val.tup ((rs.map (cut k)).map vr)
            rw [List.map_map]; rfl
          rw [e5, qOk, e6, det_ok hb (n := n) (f := f) (by omega) (by omega) (sq.minor hkl) bd.cut, qOk, qMulL _ hb2, qOk, qIp, qOk, em, det_congr (mx_minor sq hkl)]
          rfl
/-! corners -/
def cor (k : Nat) (rows : List (List Int)) : List (List Int) := (rows.take k).map (List.take k)
theorem cor_sq {n k : Nat} {rows : List (List Int)} (sq : Sqr n rows) (h : k ≤ n) : Sqr k (cor k rows) := by
  refine ⟨by unfold cor; rw [List.length_map, List.length_take, sq.len]; omega, fun r hr => ?_⟩
  obtain ⟨p, hp, rfl⟩ := List.mem_map.mp hr
  rw [List.length_take, sq.all p (List.mem_of_mem_take hp)]
  omega
theorem cor_bd {b : Int} {k : Nat} {rows : List (List Int)} (bd : Bd b rows) : Bd b (cor k rows) := fun r hr e he => by
  obtain ⟨p, hp, rfl⟩ := List.mem_map.mp hr
  exact bd p (List.mem_of_mem_take hp) e (List.mem_of_mem_take he)
theorem cor_mx {n k : Nat} {rows : List (List Int)} (sq : Sqr n rows) (h : k ≤ n) : ∀ i j, i < k → j < k → mx (cor k rows) i j = mx rows i j := fun i j hi hj => by
  unfold mx cor
  rw [getD_map' (a := []) (by rw [List.length_take, sq.len]; omega), List.getD_eq_getElem?_getD, List.getElem?_take, if_pos hj, List.getD_eq_getElem?_getD (l := rows.take k), List.getElem?_take, if_pos hi, ← List.getD_eq_getElem?_getD, ← List.getD_eq_getElem?_getD]
theorem corner_ok {n k : Nat} {rows : List (List Int)} (sq : Sqr n rows) (hn : n < 1000) : m_corner_of [tt rows, .int k] = .ok (tt (cor k rows)) := by
  rw [q_corner_of]
  unfold n_corner_of
  rw [qAsInt, qOk, qSlTt, qOk, qItT, qOk, ← List.map_take, mapOf (g := fun p => vr (p.take k)), qNxOk, qOk, qLst, qOk, qPure, qTupL]
  · unfold cor
    show _ = Res.ok (Val.tup (List.map vr (List.map _ _)))
    rw [List.map_map]; rfl
  · rw [List.length_map, List.length_take, sq.len]; omega
  · intro p _
    unfold l_corner_of_1
    rw [qAsInt, qOk, qSlTt, ← List.map_take]
def sureB (n : Nat) (A : Mx) : Bool := (List.range n).all fun i => decide (0 < det (i + 1) A)
theorem sureB_iff {n : Nat} {A : Mx} : sureB n A = true ↔ sure n A := by
  unfold sureB sure
  rw [List.all_eq_true]
  constructor
  · intro h m h1 h2
    have := h (m - 1) (List.mem_range.mpr (by omega))
    have e : m - 1 + 1 = m := by omega
    rw [e] at this
    exact of_decide_eq_true this
  · intro h i hi
    exact decide_eq_true (h (i + 1) (by omega) (by have := List.mem_range.mp hi; omega))
theorem sure_ok {b : Int} (hb : b < 18446744073709551616) {n : Nat} {rows : List (List Int)} (sq : Sqr n rows) (bd : Bd b rows) (hn : n < 8) : m_is_sure [tt rows] = .ok (.bl (sureB n (mx rows))) := by
  rw [q_is_sure]
  unfold n_is_sure
  have e : ((n : Int) + 1) = ((n + 1 : Nat) : Int) := by omega
  rw [qLenT, List.length_map, sq.len, qOk, qAdd, qOk, qPure, qPure, e]
  have e2 : vRange2 [.int 1, .int ((n + 1 : Nat) : Int)] = .ok ((List.range (n + 1 - 1)).map fun i : Nat => Val.int ((1 + i : Nat) : Int)) := qRange2 (a := 1) (by decide) (by omega)
  rw [e2, qOk, mapOf (g := fun i : Nat => Val.bl (decide (0 < det (i + 1) (mx rows)))), qNxOk, qOk, qLst (by rw [List.length_map, List.length_range]; omega), qOk, qPure]
  · have e3 : List.map (fun i : Nat => Val.bl (decide (0 < det (i + 1) (mx rows)))) (List.range (n + 1 - 1)) = ((List.range n).map fun i => decide (0 < det (i + 1) (mx rows))).map Val.bl := by rw [List.map_map]; rfl
    rw [e3, qAll, List.all_map]
    rfl
  · intro i hi
    have hi : i < n := by have := List.mem_range.mp hi; omega
    unfold l_is_sure_1
    rw [corner_ok sq (by omega), qOk, qPure, det_ok hb (by omega) (by omega) (cor_sq sq (by omega)) (cor_bd bd), qOk, qGt, det_congr (cor_mx sq (by omega)), Nat.add_comm 1 i]
end K05

/-! the package's forms -/
namespace K05
open PySem PySem.Spec PyProof.Rows L2 Tv Mt

theorem isInt_ok (i : Int) : m_is_integer [.int i] = .ok (.bl true) := by
  rw [q_is_integer]
  unfold n_is_integer
  have e1 : fIsB "int" (.int i) = .ok (.bl true) := rfl
  have e2 : fIsB "bool" (.int i) = .ok (.bl false) := rfl
  rw [e1, qOk, qTruV, qOk, if_pos rfl, e2, qOk, qTruV, qOk]
  rfl
theorem between_ok (i lo hi : Int) : m_is_between [.int i, .int lo, .int hi] = .ok (.bl (decide (lo ≤ i) && decide (i ≤ hi))) := by
  rw [q_is_between]
  unfold n_is_between
  rw [isInt_ok, qOk, qTruV, qOk, if_pos rfl, qLe, qOk, qBl, qOk, qLe]
  cases decide (lo ≤ i) <;> rfl
theorem row_ok {n k : Nat} {rs : List (List Int)} {r : List Int} (hr : r.length = n) (hb : ∀ e ∈ r, -1000 ≤ e ∧ e ≤ 1000) (hk : rs.length = k) (hkn : k < n) (hn : n < 1000) (ha : ∀ q ∈ rs, q.length = n) (hs : ∀ i, i < k → (rs.getD i []).getD k 0 = r.getD i 0) :
    m_is_row [vr r, tt rs, .int n] = .ok (.bl true) := by
  rw [q_is_row]
  unfold n_is_row
  have e1 : fIsB "tuple" (vr r) = .ok (.bl true) := rfl
  have e2 : oNe (.int ((r.map Val.int).length : Int)) (.int n) = .ok (.bl false) := by
    rw [List.length_map, hr, qNeI, beq_self_eq_true]; rfl
  rw [e1, qOk, qTru, qOk, qPure, if_neg (by decide), qLenT, qOk, e2, qOk, qBl, qOk, if_neg (by decide), qItT, qOk]
  have e3 : mapM' l_is_row_1 (r.map Val.int) = .ok ((r.map fun _ => true).map Val.bl) := by
    rw [List.map_map]
    refine mapOf fun e he => ?_
    unfold l_is_row_1
    rw [qNeg, qOk, qPure, qPure, between_ok, decide_eq_true (hb e he).1, decide_eq_true (hb e he).2]; rfl
  have a1 : (r.map fun _ => true).all id = true := by rw [List.all_eq_true]; intro b hb; obtain ⟨_, _, rfl⟩ := List.mem_map.mp hb; rfl
  rw [e3, qNxOk, qOk, qLst (by rw [List.length_map, List.length_map]; omega), qOk, qPure, qAll, a1, qOk, qTru, qOk, qPure, if_neg (by decide)]
  have e4 : vEnum [tt rs] = .ok (enum0 0 (rs.map vr)) := rfl
  have e5 : mapM' (l_is_row_2 (tt rs) (vr r)) (enum0 0 (rs.map vr)) = .ok (((List.range k).map fun _ => true).map Val.bl) := by
    have el : enum0 0 (rs.map vr) = (List.range k).map fun i : Nat => Val.tup [.int (i : Int), vr (rs.getD i [])] := by
      refine List.ext_getElem? fun i => ?_
      by_cases h : i < k
      · rw [enum0_get (i := 0) (x := vr (rs.getD i [])), List.getElem?_map, List.getElem?_range h, Nat.zero_add]
        · rfl
        · rw [List.getElem?_map, List.getElem?_eq_getElem (by omega), List.getD_eq_getElem?_getD, List.getElem?_eq_getElem (by omega)]; rfl
      · rw [List.getElem?_eq_none (by rw [enum0_length, List.length_map]; omega), List.getElem?_eq_none (by rw [List.length_map, List.length_range]; omega)]
    rw [el, List.map_map]
    refine mapOf fun i hi => ?_
    have hi : i < k := List.mem_range.mp hi
    unfold l_is_row_2
    have hq : (rs.getD i []).length = n := ha _ (getD_in (by omega))
    rw [q2, qLenT, List.length_map, hk, qOk, qIxT, qIx (getI (by omega)), qOk, qIxT, qIx (getI (by omega)), qOk, hs i hi, qEqT rfl]; rfl
  have a2 : ((List.range k).map fun _ => true).all id = true := by rw [List.all_eq_true]; intro b hb; obtain ⟨_, _, rfl⟩ := List.mem_map.mp hb; rfl
  rw [e4, qOk, e5, qNxOk, qOk, qLst (by rw [List.length_map, List.length_map, List.length_range]; omega), qOk, qPure, qAll, a2]
/-- a loop that only looks -/
theorem lookLoop {τ : Type} {step : Unit → Val → Res (Fl Unit τ)} : ∀ {items : List Val}, (∀ (k : Nat) (x : Val), items[k]? = some x → step () x = .ok (.nx ())) → forM' step items () = .ok (.nx ())
  | [], _ => rfl
  | x :: xs, h => by
    rw [forCons (h 0 x rfl)]
    exact lookLoop fun k y hk => h (k + 1) y hk
/-- a right table -/
structure Rt (n : Nat) (rows : List (List Int)) : Prop where
  sq : Sqr n rows
  pos : 1 ≤ n
  le : n ≤ 5
  bd : Bd 1000 rows
  sy : symm n (mx rows)
  su : sure n (mx rows)
theorem until_ok {n : Nat} {rows : List (List Int)} (h : Rt n rows) : m_table_until [tt rows] = .ok .non := by
  have := h.le
  rw [q_table_until]
  unfold n_table_until
  have e1 : vEnum [tt rows] = .ok (enum0 0 (rows.map vr)) := rfl
  rw [e1, qOk, lookLoop, qOk, qNxL, qOk, qOrL]
  · rfl
  · intro k x hk
    obtain ⟨y, hy, rfl⟩ := enum0_at hk
    obtain ⟨r, hr, rfl⟩ := map_at hy
    have hk2 : k < n := by have := (List.getElem?_eq_some_iff.mp hr).1; rw [h.sq.len] at this; exact this
    have hm := List.mem_of_getElem? hr
    have er : rows.getD k [] = r := by rw [List.getD_eq_getElem?_getD, hr]; rfl
    unfold l_table_until_1
    rw [Nat.zero_add, q2, qAsInt, qOk, qSlTt, qOk, qLenT, List.length_map, h.sq.len, qOk, qPure, qPure, qPure, ← List.map_take]
    rw [row_ok (k := k) (h.sq.all r hm) (fun e he => h.bd r hm e he) (by rw [List.length_take, h.sq.len]; omega) hk2 (by omega) (fun q hq => h.sq.all q (List.mem_of_mem_take hq)) (fun i hi => ?_), qOk, qTru, qOk]
    · rfl
    · have := h.sy i k (by omega) hk2
      unfold mx at this
      rw [er] at this
      rw [List.getD_eq_getElem?_getD (l := rows.take k), List.getElem?_take, if_pos hi, ← List.getD_eq_getElem?_getD]
      exact this
/-- the form with a table -/
def formV (rows : List (List Int)) : Val := .obj "Form" (putFv "total" (.int (det rows.length (mx rows))) (putFv "rows" (tt rows) []))
theorem init_ok {n : Nat} {rows : List (List Int)} (h : Rt n rows) : m_Form___init__ [tt rows] = .ok (putFv "total" (.int (det rows.length (mx rows))) (putFv "rows" (tt rows) [])) := by
  have h1 := h.le
  have h2 := h.pos
  rw [q_Form___init__]
  unfold n_Form___init__
  have e1 : fIsB "tuple" (tt rows) = .ok (.bl true) := rfl
  rw [e1, qOk, qTru, qOk, qPure, if_neg (by decide), qLenT, List.length_map, h.sq.len, qOk, qLe, qOk, qBl, qOk, if_pos (by simp; omega), qLe, qOk, qBl, decide_eq_true (show (n : Int) ≤ 5 by omega), qOk, qPure, if_neg (by decide), until_ok h, qOk]
  have e2 : oNotN .non .non = .ok (.bl false) := rfl
  rw [e2, qOk, qBl, qOk, if_neg (by decide), sure_ok (by decide) h.sq h.bd (by omega), sureB_iff.mpr h.su, qOk, qTru, qOk, qPure, if_neg (by decide), det_ok (by decide) (by omega) (by omega) h.sq h.bd, qOk]
  rfl
theorem rows_of (rows : List (List Int)) : oFld ["Form"] "rows" (formV rows) = .ok (tt rows) := rfl
theorem places_ok (rows : List (List Int)) : m_Form_places [formV rows] = .ok (.int rows.length) := by
  rw [q_Form_places]
  unfold n_Form_places
  rw [rows_of, qOk, qPure, qLenT, List.length_map]
theorem point_ok {n : Nat} {rows : List (List Int)} (h : Rt n rows) {p : List Int} (hp : p.length = n) : m_check_point [formV rows, vr p] = .ok .non := by
  rw [q_check_point]
  unfold n_check_point
  have e1 : fIsB "tuple" (vr p) = .ok (.bl true) := rfl
  have e2 : isI "Form" (formV rows) = .ok () := rfl
  rw [e1, qOk, qTru, qOk, qPure, if_neg (by decide), qLenT, List.length_map, hp, qOk, e2, qOk, places_ok, qNxOk, qOk, h.sq.len, qNeI, beq_self_eq_true, qOk, qBl, qOk, if_neg (by decide)]
  have e3 : vEnum [vr p] = .ok (enum0 0 (p.map Val.int)) := rfl
  rw [e3, qOk, lookLoop, qOk, qOnly, qOk]
  · rfl
  · intro k x hk
    obtain ⟨y, hy, rfl⟩ := enum0_at hk
    obtain ⟨r, hr, rfl⟩ := map_at hy
    unfold l_check_point_1
    rw [q2, isInt_ok, qOk, qTru, qOk]
    rfl
/-! values -/
def pv (p : List Int) : Nat → Int := fun i => p.getD i 0
/-- places not beyond what the model multiplies -/
def Pb (p : List Int) : Prop := ∀ e ∈ p, e.natAbs < 2 ^ 1000
theorem qMulW {i j : Int} (hi : i.natAbs < 2 ^ 1100) (hj : j.natAbs < 2 ^ 1100) : oMul (.int i) (.int j) = .ok (.int (i * j)) := by
  have lg : ∀ {a : Nat}, a < 2 ^ 1100 → a.log2 < 1100 := fun {a} h => by
    by_cases z : a = 0
    · subst z; decide
    · exact (Nat.log2_lt z).mpr h
  have h1 := lg hi
  have h2 := lg hj
  show (if _ then _ else (if _ then _ else _)) = _
  split
  · rfl
  · rw [if_pos (by omega)]
theorem zip_mul : ∀ {r y : List Int}, (∀ e ∈ r, smallB e = true) → mapM' l_product_of_1 (zipV (r.map Val.int) (y.map Val.int)) = .ok ((List.zipWith (· * ·) r y).map Val.int)
  | [], _, _ => rfl
  | _ :: _, [], _ => rfl
  | a :: r, b :: y, h => by
    show mapM' l_product_of_1 (Val.tup [.int a, .int b] :: zipV (r.map Val.int) (y.map Val.int)) = .ok (Val.int (a * b) :: (List.zipWith (· * ·) r y).map Val.int)
    refine mapCons ?_ (zip_mul fun e he => h e (List.mem_cons_of_mem _ he))
    unfold l_product_of_1
    rw [q2, qMulL _ (h a List.mem_cons_self)]
theorem zip_sum : ∀ {r y : List Int}, r.length = y.length → (List.zipWith (· * ·) r y).sum = sm r.length fun j => r.getD j 0 * y.getD j 0
  | [], [], _ => rfl
  | a :: r, b :: y, h => by
    show a * b + (List.zipWith (· * ·) r y).sum = sm (r.length + 1) _
    rw [zip_sum (by simpa using h), sm_head]
    rfl
  | [], _ :: _, h => by simp at h
  | _ :: _, [], h => by simp at h
theorem sm_abs {f : Nat → Int} {B : Nat} : ∀ {n : Nat}, (∀ i, i < n → (f i).natAbs ≤ B) → (sm n f).natAbs ≤ n * B
  | 0, _ => by show (0 : Int).natAbs ≤ _; simp
  | n + 1, h => by
    have h1 := sm_abs (f := f) (B := B) (n := n) fun i hi => h i (by omega)
    have h2 := h n (by omega)
    show (sm n f + f n).natAbs ≤ _
    rw [Nat.succ_mul]
    omega
theorem zipV_get : ∀ {xs ys : List Val} {k : Nat} {z : Val}, (zipV xs ys)[k]? = some z → ∃ x y, xs[k]? = some x ∧ ys[k]? = some y ∧ z = .tup [x, y]
  | [], _, _, _, h => by simp [zipV] at h
  | _ :: _, [], _, _, h => by simp [zipV] at h
  | x :: xs, y :: ys, 0, z, h => by
    simp [zipV] at h
    exact ⟨x, y, rfl, rfl, h.symm⟩
  | x :: xs, y :: ys, k + 1, z, h => by
    simp [zipV] at h
    obtain ⟨a, b, h1, h2, h3⟩ := zipV_get h
    exact ⟨a, b, by simpa using h1, by simpa using h2, h3⟩
theorem zipV_len : ∀ {xs ys : List Val}, xs.length = ys.length → (zipV xs ys).length = xs.length
  | [], _, _ => rfl
  | _ :: _, [], h => by simp at h
  | x :: xs, y :: ys, h => by
    show (zipV xs ys).length + 1 = xs.length + 1
    rw [zipV_len (by simpa using h)]
theorem abs_mul_le {a b : Int} {m n : Nat} (h1 : a.natAbs ≤ m) (h2 : b.natAbs ≤ n) : (a * b).natAbs ≤ m * n := by
  rw [Int.natAbs_mul]
  exact Nat.mul_le_mul h1 h2
theorem product_ok {n : Nat} {rows : List (List Int)} (h : Rt n rows) {x y : List Int} (hx : x.length = n) (hy : y.length = n) (px : Pb x) (py : Pb y) : m_product_of [tt rows, vr x, vr y] = .ok (.int (bil n (mx rows) (pv x) (pv y))) := by
  have h1 := h.le
  rw [q_product_of]
  unfold n_product_of
  have e1 : vZip [tt rows, vr x] = .ok (zipV (rows.map vr) (x.map Val.int)) := rfl
  rw [e1, qOk, sumLoop (f := fun i => pv x i * sm n fun j => mx rows i j * pv y j), qOk, qOnly, qOk]
  · rw [zipV_len (by rw [List.length_map, List.length_map, h.sq.len, hx]), List.length_map, h.sq.len, Int.zero_add]
    rfl
  · intro k z t hk
    obtain ⟨u, v, h2, h3, rfl⟩ := zipV_get hk
    obtain ⟨r, hr, rfl⟩ := map_at h2
    obtain ⟨a, ha, rfl⟩ := map_at h3
    have hm := List.mem_of_getElem? hr
    have lr := h.sq.all r hm
    have er : ∀ j, mx rows k j = r.getD j 0 := fun j => by unfold mx; rw [List.getD_eq_getElem?_getD (l := rows), hr]; rfl
    have ea : pv x k = a := by unfold pv; rw [List.getD_eq_getElem?_getD, ha]; rfl
    unfold l_product_of_2
    have e2 : vZip [vr r, vr y] = .ok (zipV (r.map Val.int) (y.map Val.int)) := rfl
    have sb : ∀ e ∈ r, smallB e = true := fun e he => smB (b := 1000) (by decide) (h.bd r hm e he)
    have es : (List.zipWith (· * ·) r y).sum = sm n fun j => mx rows k j * pv y j := by
      rw [zip_sum (by omega), lr]
      exact sm_congr fun j _ => by rw [er]; rfl
    have bs : (sm n fun j => mx rows k j * pv y j).natAbs ≤ n * (1000 * 2 ^ 1000) := sm_abs fun j hj => abs_mul_le (by
      rw [er]
      have := h.bd r hm _ (getD_in (xs := r) (i := j) (d := 0) (by omega))
      omega) (Nat.le_of_lt (py _ (getD_in (by omega))))
    have bs2 : n * (1000 * 2 ^ 1000) ≤ 5 * (1000 * 2 ^ 1000) := Nat.mul_le_mul_right _ h1
    have bs3 : 5 * (1000 * 2 ^ 1000) < 2 ^ 1100 := by decide
    have ba : a.natAbs < 2 ^ 1100 := Nat.lt_trans (px a (List.mem_of_getElem? ha)) (by decide)
    rw [q2, e2, qOk, zip_mul sb, qNxOk, qOk, qLst (by rw [List.length_map, List.length_zipWith]; omega), qOk, qPure, qSum, es, qOk, qMulW ba (Nat.lt_of_le_of_lt bs (Nat.lt_of_le_of_lt bs2 bs3)), qOk, qIp, qOk, ea]
    rfl
theorem value_ok {n : Nat} {rows : List (List Int)} (h : Rt n rows) {x : List Int} (hx : x.length = n) (px : Pb x) : m_Form_value [formV rows, vr x] = .ok (.int (bil n (mx rows) (pv x) (pv x))) := by
  rw [q_Form_value]
  unfold n_Form_value
  rw [point_ok h hx, qOk, rows_of, qOk, qPure, product_ok h hx hx px px]
theorem prod_ok {n : Nat} {rows : List (List Int)} (h : Rt n rows) {x y : List Int} (hx : x.length = n) (hy : y.length = n) (px : Pb x) (py : Pb y) : m_Form_product [formV rows, vr x, vr y] = .ok (.int (bil n (mx rows) (pv x) (pv y))) := by
  rw [q_Form_product]
  unfold n_Form_product
  rw [point_ok h hx, qOk, point_ok h hy, qOk, rows_of, qOk, qPure, product_ok h hx hy px py]
end K05

/-! the law's own tables -/
namespace K05
open PySem PySem.Spec PyProof.Rows L2 Tv Mt

theorem ldet_one_ok {k : Nat} {p : List Int} (hp : p.length < 1000) : l__law_det_1 (.int k) (vl p) = .ok (vl (cut k p)) := by
  unfold l__law_det_1
  have e : ((k : Int) + 1) = ((k + 1 : Nat) : Int) := by omega
  rw [qAsInt, qOk, qSlLt, qOk, qAdd, qOk, qAsInt, qOk, e, qSlLd, qOk, qCatL]
  · show Res.ok (Val.lst _) = _
    unfold cut
    rw [← List.map_take, ← List.map_drop, ← List.map_append]
  · rw [List.length_take, List.length_drop, List.length_map]
    omega
theorem sgAnd (k : Nat) : (1 - 2 * Builtin.bitAnd (k : Int) 1 : Int) = sg k := by
  rw [bitAnd_m1]
  unfold sg
  by_cases h : k % 2 = 0
  · rw [if_pos h]; omega
  · rw [if_neg h]; omega
theorem ldet_ok {b : Int} (hb : b < 18446744073709551616) : ∀ {n f : Nat} {rows : List (List Int)}, n < f → n < 1000 → Sqr n rows → Bd b rows → m__law_det f [ll rows] = .ok (.int (det n (mx rows)))
  | n, 0, _, h, _, _, _ => absurd h (Nat.not_lt_zero _)
  | 0, f + 1, rows, _, _, sq, _ => by
    have : rows = [] := List.length_eq_zero_iff.mp sq.len
    subst this
    rw [q__law_det]
    unfold n__law_det
    rw [qLst (Nat.zero_le _), qOk]
    have e : oEq (ll []) (.lst []) = .ok (.bl true) := eqSame (x := .lst []) (dt_ok (dt_ll 0 []) (by decide))
    rw [e, qOk, qBl, qOk]
    rfl
  | n + 1, f + 1, rows, hf, hn, sq, bd => by
    cases rows with
    | nil => exact absurd sq.len (by simp)
    | cons r rs =>
      have hr : r.length = n + 1 := sq.all r List.mem_cons_self
      have hrs : rs.length = n := by have := sq.len; rw [List.length_cons] at this; omega
      rw [q__law_det]
      unfold n__law_det
      have e0 : oEq (ll (r :: rs)) (.lst []) = .ok (.bl false) := by
        have q := (eqT_ok (dt_ll 0 (r :: rs)) (dt_ll 0 []) (by decide) (by decide)).1
        rwa [show eqT (ll (r :: rs)) (ll []) = false from eqL_ne0 _ _] at q
      rw [qLst (Nat.zero_le _), qOk, e0, qOk, qBl, qOk, if_neg (by decide), qLenL, List.length_map, sq.len, qOk, qPure, qRange1 (by omega), qOk, sumLoop (f := fun k => sg k * mx (r :: rs) 0 k * det n (mi k (mx (r :: rs)))), qOk, qOnly, qOk]
      · rw [upto_len, Int.zero_add]
        rfl
      · intro k x t hk
        obtain ⟨hkl, rfl⟩ := upto_at hk
        have he : r[k]? = some (r.getD k 0) := by rw [List.getD_eq_getElem?_getD, List.getElem?_eq_getElem (by omega)]; rfl
        have em : mx (r :: rs) 0 k = r.getD k 0 := rfl
        have q := bd r List.mem_cons_self _ (getD_in (xs := r) (i := k) (d := 0) (by omega))
        have hbe : smallB (sg k) = true := by unfold sg; split <;> decide
        have hb2 : smallB (sg k * r.getD k 0) = true := by
          refine smB hb ?_
          unfold sg
          split <;> omega
        unfold l__law_det_2
        have e3 : oSl (ll (r :: rs)) (some 1) none = .ok (.lst (rs.map vl)) := qSlLd _ 1
        rw [qAsInt, qOk, e3, qOk, qItL, qOk, mapOf (g := fun p => vl (cut k p)) (fun p hp => ldet_one_ok (by rw [sq.all p (List.mem_cons_of_mem _ hp)]; omega)), qNxOk, qOk, qLst (by rw [List.length_map]; omega), qOk]
        have e4 : oAnd (.int k) (.int 1) = .ok (.int (Builtin.bitAnd k 1)) := rfl
        have e6 : Val.lst (rs.map fun p => vl (cut k p)) = ll (rs.map (cut k)) := by
          show _ = Val.lst ((rs.map (cut k)).map vl)
          rw [List.map_map]; rfl
        have e7 : oIx (ll (r :: rs)) (.int 0) = .ok (vl r) := by
          rw [qIxL]
          exact qIx (i := 0) rfl
        have e8 : oIx (vl r) (.int k) = .ok (.int (r.getD k 0)) := by
          rw [qIxL]
          exact qIx (getI (by omega))
        rw [e4, qOk, qMulL _ (by decide), qOk, qSub, sgAnd, qOk, e7, qOk, e8, qOk, qMulL _ hbe, qOk, e6, ldet_ok hb (n := n) (f := f) (by omega) (by omega) (sq.minor hkl) bd.cut, qOk, qMulL _ hb2, qOk, qAdd, qOk, em, det_congr (mx_minor sq hkl)]
        rfl
theorem lsure_ok {b : Int} (hb : b < 18446744073709551616) {n : Nat} {rows : List (List Int)} (sq : Sqr n rows) (bd : Bd b rows) (hn : n < 8) : m__law_is_sure [ll rows] = .ok (.bl (sureB n (mx rows))) := by
  rw [q__law_is_sure]
  unfold n__law_is_sure
  have e : ((n : Int) + 1) = ((n + 1 : Nat) : Int) := by omega
  rw [qLenL, List.length_map, sq.len, qOk, qAdd, qOk, qPure, qPure, e]
  have e2 : vRange2 [.int 1, .int ((n + 1 : Nat) : Int)] = .ok ((List.range (n + 1 - 1)).map fun i : Nat => Val.int ((1 + i : Nat) : Int)) := qRange2 (a := 1) (by decide) (by omega)
  rw [e2, qOk, mapOf (g := fun i : Nat => Val.bl (decide (0 < det (i + 1) (mx rows)))), qNxOk, qOk, qLst (by rw [List.length_map, List.length_range]; omega), qOk, qPure]
  · have e3 : List.map (fun i : Nat => Val.bl (decide (0 < det (i + 1) (mx rows)))) (List.range (n + 1 - 1)) = ((List.range n).map fun i => decide (0 < det (i + 1) (mx rows))).map Val.bl := by rw [List.map_map]; rfl
    rw [e3, qAll, List.all_map]
    rfl
  · intro i hi
    have hi : i < n := by have := List.mem_range.mp hi; omega
    unfold l__law_is_sure_2
    have e5 : Val.lst (((rows.take (1 + i)).map fun p => vl (p.take (1 + i)))) = ll (cor (1 + i) rows) := by
      unfold cor
      show _ = Val.lst (List.map vl (List.map _ _))
      rw [List.map_map]; rfl
    rw [qAsInt, qOk, qSlLt, qOk, qItL, qOk, ← List.map_take, mapOf (g := fun p => vl (p.take (1 + i))), qNxOk, qOk, qLst (by rw [List.length_map, List.length_take, sq.len]; omega), qOk, qPure, e5, ldet_ok hb (by omega) (by omega) (cor_sq sq (by omega)) (cor_bd bd), qOk, qGt, det_congr (cor_mx sq (by omega)), Nat.add_comm 1 i]
    intro p _
    unfold l__law_is_sure_1
    rw [qAsInt, qOk, qSlLt, ← List.map_take]
/-! squares -/
def sqR (fs : List Int) : List (List Int) := (List.range fs.length).map fun k => (List.range fs.length).map fun j => if k = j then fs.getD k 0 else 0
theorem getD_range {α : Type} {n i : Nat} {g : Nat → α} {d : α} (h : i < n) : ((List.range n).map g).getD i d = g i := by
  rw [List.getD_eq_getElem?_getD, List.getElem?_map, List.getElem?_range h]
  rfl
theorem sqR_sq (fs : List Int) : Sqr fs.length (sqR fs) := by
  refine ⟨by unfold sqR; rw [List.length_map, List.length_range], fun r hr => ?_⟩
  obtain ⟨k, _, rfl⟩ := List.mem_map.mp hr
  rw [List.length_map, List.length_range]
theorem sqR_mx (fs : List Int) : ∀ i j, i < fs.length → j < fs.length → mx (sqR fs) i j = dia (fun k => fs.getD k 0) i j := fun i j hi hj => by
  unfold mx sqR
  rw [getD_range hi, getD_range hj]
  rfl
theorem square_ok {fs : List Int} (hl : fs.length < 1000) : m__law_square_rows [vl fs] = .ok (ll (sqR fs)) := by
  rw [q__law_square_rows]
  unfold n__law_square_rows
  rw [qLenL, List.length_map, qOk, qRange1 (by omega), qOk]
  have e : mapM' (l__law_square_rows_2 (.int fs.length) (vl fs)) (upto fs.length) = .ok ((List.range fs.length).map fun k => vl ((List.range fs.length).map fun j => if k = j then fs.getD k 0 else 0)) := by
    refine mapOf fun k hk => ?_
    have hk := List.mem_range.mp hk
    unfold l__law_square_rows_2
    rw [qRange1 (by omega), qOk]
    have e2 : mapM' (l__law_square_rows_1 (.int k) (vl fs)) (upto fs.length) = .ok ((List.range fs.length).map fun j => Val.int (if k = j then fs.getD k 0 else 0)) := by
      refine mapOf fun j hj => ?_
      unfold l__law_square_rows_1
      by_cases c : k = j
      · rw [qEqT (by rw [c]), qOk, qBl, qOk, if_pos rfl, qIxL, qIx (getI hk), if_pos c]
      · rw [qEqF (by omega), qOk, qBl, qOk, if_neg (by decide), if_neg c]; rfl
    rw [e2, qNxOk, qOk, qLst (by rw [List.length_map, List.length_range]; omega)]
    show _ = Res.ok (Val.lst (List.map Val.int (List.map _ _)))
    rw [List.map_map]; rfl
  rw [e, qNxOk, qOk, qLst (by rw [List.length_map, List.length_range]; omega)]
  unfold sqR
  show _ = Res.ok (Val.lst (List.map vl (List.map _ _)))
  rw [List.map_map]; rfl
theorem sqR_bd {fs : List Int} {b : Int} (h : ∀ e ∈ fs, -b ≤ e ∧ e ≤ b) (hb : 0 ≤ b) : Bd b (sqR fs) := fun r hr e he => by
  obtain ⟨k, hk, rfl⟩ := List.mem_map.mp hr
  obtain ⟨j, _, rfl⟩ := List.mem_map.mp he
  split
  · exact h _ (getD_in (List.mem_range.mp hk))
  · omega
/-! rows changed in place -/
def rowsV (R : List (List Int)) : List (List Val) := R.map fun r => r.map Val.int
theorem ll_rowsV (R : List (List Int)) : Val.lst ((rowsV R).map Val.lst) = ll R := by
  unfold rowsV
  rw [List.map_map]; rfl
def setE (R : List (List Int)) (k t : Nat) (v : Int) : List (List Int) := R.set k ((R.getD k []).set t v)
theorem setE_sq {n k t : Nat} {v : Int} {R : List (List Int)} (h : Sqr n R) (hk : k < n) : Sqr n (setE R k t v) := by
  refine ⟨by unfold setE; rw [List.length_set, h.len], fun r hr => ?_⟩
  rcases List.mem_or_eq_of_mem_set hr with m | e
  · exact h.all r m
  · rw [e, List.length_set, h.row hk]
theorem setE_mx {n k t : Nat} {v : Int} {R : List (List Int)} (h : Sqr n R) (hk : k < n) (ht : t < n) (i j : Nat) : mx (setE R k t v) i j = if i = k ∧ j = t then v else mx R i j := by
  have hl := h.row hk
  unfold mx setE
  rw [List.getD_eq_getElem?_getD (l := R.set k _), List.getElem?_set]
  by_cases c : k = i
  · subst c
    rw [if_pos rfl, if_pos (by rw [h.len]; exact hk), Option.getD_some, List.getD_eq_getElem?_getD, List.getElem?_set]
    by_cases d : t = j
    · subst d
      rw [if_pos rfl, if_pos (by rw [hl]; exact ht), if_pos ⟨rfl, rfl⟩]; rfl
    · rw [if_neg d, if_neg (fun z => d z.2.symm), ← List.getD_eq_getElem?_getD]
  · rw [if_neg c, if_neg (fun z => c z.1.symm), ← List.getD_eq_getElem?_getD]
theorem rowOf_ok' {n k : Nat} {R : List (List Int)} (h : Sqr n R) (hk : k < n) : rowOf (rowsV R) (.int k) = .ok ((R.getD k []).map Val.int) := by
  have e : L2.atI (rowsV R) (k : Int) = some ((R.getD k []).map Val.int) := by
    refine L2.atI_nat ?_
    unfold rowsV
    rw [List.getElem?_map, List.getElem?_eq_getElem (by rw [h.len]; exact hk), List.getD_eq_getElem?_getD, List.getElem?_eq_getElem (by rw [h.len]; exact hk)]
    rfl
  show (match L2.atI (rowsV R) (k : Int) with | some xs => Res.ok xs | none => .stuck) = _
  rw [e]
theorem ixL_ok' {n k t : Nat} {R : List (List Int)} (h : Sqr n R) (hk : k < n) (ht : t < n) : ixL ((R.getD k []).map Val.int) (.int t) = .ok (.int (mx R k t)) := qIx (getI (by rw [h.row hk]; exact ht))
theorem ixN_nat {n k : Nat} (h : k < n) : L2.ixN n (k : Int) = some k := by
  unfold L2.ixN
  rw [if_pos (by omega), if_pos (by omega), Int.toNat_natCast]
theorem setRow_ok' {n k t : Nat} {v : Int} {R : List (List Int)} (h : Sqr n R) (hk : k < n) (ht : t < n) : setRow (rowsV R) (.int k) (.int t) (.int v) = .ok (rowsV (setE R k t v)) := by
  have e1 : (rowsV R).length = n := by unfold rowsV; rw [List.length_map, h.len]
  have e2 : (rowsV R)[k]? = some ((R.getD k []).map Val.int) := by
    unfold rowsV
    rw [List.getElem?_map, List.getElem?_eq_getElem (by rw [h.len]; exact hk), List.getD_eq_getElem?_getD, List.getElem?_eq_getElem (by rw [h.len]; exact hk)]
    rfl
  show (match L2.ixN (rowsV R).length (k : Int) with
    | some a => match (rowsV R)[a]? with
      | some xs => match L2.ixN xs.length (t : Int) with
        | some b => Res.ok ((rowsV R).set a (xs.set b (.int v)))
        | none => .stuck
      | none => .stuck
    | none => .stuck) = _
  rw [e1, ixN_nat hk]
  dsimp only
  rw [e2]
  dsimp only
  rw [List.length_map, h.row hk, ixN_nat ht]
  dsimp only
  unfold setE rowsV
  rw [List.map_set, List.map_set]
theorem rows_copy {n : Nat} {R : List (List Int)} (h : Sqr n R) {f : Val → Res (List Val)} (hf : ∀ x, f x = seqL x) : mapO f (R.map vl) = .ok (rowsV R) := by
  clear h
  induction R with
  | nil => rfl
  | cons r R ih =>
    show (f (vl r) >>= fun y => mapO f (R.map vl) >>= fun ys => Pure.pure (y :: ys)) = _
    rw [hf, ih]
    rfl
theorem copy_ok {n : Nat} {R : List (List Int)} (h : Sqr n R) (hn : n < 1000) {f : Val → Res (List Val)} (hf : ∀ x, f x = seqL x) : (vIter (ll R) >>= fun xs => Mon.nx (mapO f xs) >>= fun ys => vLst2 ys) = .ok (rowsV R) := by
  rw [qItL, qOk, rows_copy h hf, qNxOk, qOk]
  unfold vLst2
  rw [if_pos]
  unfold rowsV
  rw [List.length_map, h.len]
  exact Nat.le_trans (by omega) sizeBig
/-- a place of each row changed, the rows one by one -/
theorem spun_ok {n one two : Nat} {many : Int} {R : List (List Int)} (h : Sqr n R) (hn : n < 1000) (h1 : one < n) (h2 : two < n) (hm : smallB many = true) : ∃ R', m__law_spun [ll R, .int one, .int two, .int many] = .ok (ll R') ∧ Sqr n R' ∧ ∀ i j, i < n → j < n → mx R' i j = spun (mx R) one two many i j := by
  rw [q__law_spun]
  unfold n__law_spun
  rw [copy_ok (f := l__law_spun_1) h hn (fun _ => rfl), qOk, qLenL, List.length_map, h.len, qOk, qPure, qRange1 (by omega), qOk]
  obtain ⟨st1, e1, R1, rfl, s1, m1⟩ := forOk (step := l__law_spun_2 (.int two) (.int one) (.int many)) (fun d (st : List (List Val)) => ∃ R', st = rowsV R' ∧ Sqr n R' ∧ ∀ i j, i < n → j < n → mx R' i j = if i < d.length then addC (mx R) one two many i j else mx R i j) (upto n) [] (rowsV R) (fun d x r st e p => by
    obtain ⟨R', rfl, s, mm⟩ := p
    have hx : (upto n)[d.length]? = some x := by
      rw [List.nil_append] at e
      rw [e, List.getElem?_append_right (Nat.le_refl _), Nat.sub_self]; rfl
    obtain ⟨hk, rfl⟩ := upto_at hx
    refine ⟨rowsV (setE R' d.length two (mx R' d.length two + many * mx R' d.length one)), ?_, _, rfl, setE_sq s hk, fun i j hi hj => ?_⟩
    · unfold l__law_spun_2
      rw [rowOf_ok' s hk, qOk, ixL_ok' s hk h2, qOk, qOk, ixL_ok' s hk h1, qOk, qMulL _ hm, qOk, qAdd, qOk, qOk, setRow_ok' s hk h2, qOk]
      rfl
    · rw [setE_mx s hk h2, List.length_append]
      by_cases c : i = d.length
      · subst c
        rw [if_pos (show d.length < d.length + [Val.int d.length].length by simp)]
        have a := mm d.length j hk hj
        have a1 := mm d.length one hk h1
        have a2 := mm d.length two hk h2
        rw [if_neg (by omega)] at a a1 a2
        unfold addC
        by_cases q : j = two
        · rw [if_pos ⟨rfl, q⟩, if_pos q, a1, a2, q]
        · rw [if_neg (fun z => q z.2), if_neg q, a]
      · rw [if_neg (fun z => c z.1), mm i j hi hj]
        by_cases q : i < d.length
        · rw [if_pos q, if_pos (by omega)]
        · rw [if_neg q, if_neg (by simp; omega)]) ⟨R, rfl, h, fun i j _ _ => (if_neg (Nat.not_lt_zero i)).symm⟩
  rw [e1, qOk, qOnly, qOk, qOk]
  obtain ⟨st2, e2, R2, rfl, s2, m2⟩ := forOk (step := l__law_spun_3 (.int two) (.int one) (.int many)) (fun d (st : List (List Val)) => ∃ R', st = rowsV R' ∧ Sqr n R' ∧ ∀ i j, i < n → j < n → mx R' i j = if i = two ∧ j < d.length then mx R1 two j + many * mx R1 one j else mx R1 i j) (upto n) [] (rowsV R1) (fun d x r st e p => by
    obtain ⟨R', rfl, s, mm⟩ := p
    have hx : (upto n)[d.length]? = some x := by
      rw [List.nil_append] at e
      rw [e, List.getElem?_append_right (Nat.le_refl _), Nat.sub_self]; rfl
    obtain ⟨hk, rfl⟩ := upto_at hx
    refine ⟨rowsV (setE R' two d.length (mx R' two d.length + many * mx R' one d.length)), ?_, _, rfl, setE_sq s h2, fun i j hi hj => ?_⟩
    · unfold l__law_spun_3
      rw [rowOf_ok' s h2, qOk, ixL_ok' s h2 hk, qOk, rowOf_ok' s h1, qOk, ixL_ok' s h1 hk, qOk, qMulL _ hm, qOk, qAdd, qOk, qOk, setRow_ok' s h2 hk, qOk]
      rfl
    · rw [setE_mx s h2 hk, List.length_append]
      have l1 : [Val.int (d.length : Int)].length = 1 := rfl
      rw [l1]
      by_cases c : i = two ∧ j = d.length
      · rw [if_pos c, if_pos ⟨c.1, by omega⟩, mm two d.length h2 hk, if_neg (by omega), mm one d.length h1 hk, if_neg (by omega), c.2]
      · rw [if_neg c, mm i j hi hj]
        by_cases q : i = two ∧ j < d.length
        · rw [if_pos q, if_pos ⟨q.1, by omega⟩]
        · rw [if_neg q, if_neg (by omega)]) ⟨R1, rfl, s1, fun i j _ _ => (if_neg (fun z => absurd z.2 (Nat.not_lt_zero j))).symm⟩
  rw [e2, qOk, qOnly, qOk]
  refine ⟨R2, by rw [← ll_rowsV]; rfl, s2, fun i j hi hj => ?_⟩
  rw [m2 i j hi hj, List.nil_append, upto_len]
  rw [List.nil_append, upto_len] at m1
  unfold spun addR
  by_cases c : i = two
  · rw [if_pos ⟨c, hj⟩, if_pos c, m1 two j h2 hj, m1 one j h1 hj, if_pos h2, if_pos h1, c]
  · rw [if_neg (fun z => c z.1), if_neg c, m1 i j hi hj, if_pos hi]
end K05

set_option exponentiation.threshold 3000
/-! greatest entries, tables, sums -/
namespace K05
open PySem PySem.Spec PyProof.Rows L2 Tv Mt

def abI (i : Int) : Int := if i < 0 then -i else i
theorem qMaxL (x : Int) (xs : List Int) : fMax [.lst ((x :: xs).map Val.int)] = .ok (.int (maxI x xs)) := by
  show (match intsV ((x :: xs).map Val.int) with | some (n :: ns) => Res.ok (Val.int (maxI n ns)) | _ => .stuck) = _
  rw [Tv.ints_map]
theorem greatest_ok {n : Nat} {R : List (List Int)} (h : Sqr n R) (h1 : 1 ≤ n) (hn : n < 1000) : ∃ g, m__law_greatest [ll R] = .ok (.int g) ∧ Bd g R := by
  rw [q__law_greatest]
  unfold n__law_greatest
  have row : ∀ r : List Int, ∀ x xs, r = x :: xs → r.length < 1000 → l__law_greatest_2 (vl r) = .ok (.int (maxI (abI x) (xs.map abI))) := fun r x xs e hl => by
    unfold l__law_greatest_2
    rw [qItL, qOk, mapOf (f := l__law_greatest_1) (i := Val.int) (g := fun e => Val.int (abI e)) (fun e _ => rfl), qNxOk, qOk, qLst (by rw [List.length_map]; omega), qOk, qPure]
    have e2 : r.map (fun e => Val.int (abI e)) = (abI x :: xs.map abI).map Val.int := by
      rw [e, ← List.map_cons (f := abI), List.map_map]; rfl
    rw [e2, qMaxL]
  let G : List Int → Int := fun r => match r with
    | [] => 0
    | x :: xs => maxI (abI x) (xs.map abI)
  have eG : mapM' l__law_greatest_2 (R.map vl) = .ok (R.map fun r => Val.int (G r)) := mapOf fun r hr => by
    have hl := h.all r hr
    cases r with
    | nil => rw [← hl] at h1; exact absurd h1 (by simp)
    | cons x xs => exact row _ x xs rfl (by omega)
  rw [qItL, qOk, eG, qNxOk, qOk, qLst (by rw [List.length_map, h.len]; omega), qOk, qPure]
  cases R with
  | nil => have := h.len; simp at this; omega
  | cons r R =>
    have e3 : (r :: R).map (fun r => Val.int (G r)) = (G r :: R.map G).map Val.int := by
      rw [← List.map_cons (f := G), List.map_map]; rfl
    rw [e3, qMaxL]
    refine ⟨_, rfl, fun q hq e he => ?_⟩
    have a1 : G q ≤ maxI (G r) (R.map G) := maxI_ge _ _ _ (by rw [← List.map_cons (f := G)]; exact List.mem_map_of_mem hq)
    have a2 : abI e ≤ G q := by
      cases q with
      | nil => exact absurd he (by simp)
      | cons x xs =>
        show abI e ≤ maxI (abI x) (xs.map abI)
        exact maxI_ge _ _ _ (by rw [← List.map_cons (f := abI)]; exact List.mem_map_of_mem he)
    have a3 : -(abI e) ≤ e ∧ e ≤ abI e := by unfold abI; split <;> omega
    omega
theorem table_ok {n : Nat} {R : List (List Int)} (h : Sqr n R) (hn : n < 1000) : m__law_table [ll R] = .ok (tt R) := by
  rw [q__law_table]
  unfold n__law_table
  rw [qItL, qOk, mapOf (f := l__law_table_1) (i := vl) (g := fun r => vr r) (fun r _ => rfl), qNxOk, qOk, qLst (by rw [List.length_map, h.len]; omega), qOk, qPure, qTupL]
theorem made_ok {n : Nat} {R : List (List Int)} (h : Rt n R) : m__law_made [ll R] = .ok (formV R) := by
  have := h.le
  rw [q__law_made]
  unfold n__law_made
  rw [table_ok h.sq (by omega), qOk, qPure, init_ok h, qOk]
  rfl
theorem times_ok {n : Nat} {R : List (List Int)} (h : Rt n R) {x y : List Int} (hx : x.length = n) (hy : y.length = n) (px : Pb x) (py : Pb y) : m__law_times [ll R, vr x, vr y] = .ok (.int (bil n (mx R) (pv x) (pv y))) := by
  have h1 := h.le
  rw [q__law_times]
  unfold n__law_times
  rw [qLenL, List.length_map, h.sq.len, qOk, qPure, qRange1 (by omega), qOk, sumLoop (f := fun i => pv x i * sm n fun j => mx R i j * pv y j), qOk, qOnly, qOk]
  · rw [upto_len, Int.zero_add]
    rfl
  · intro k z t hk
    obtain ⟨kn, rfl⟩ := upto_at hk
    unfold l__law_times_2
    rw [qLenL, List.length_map, h.sq.len, qOk, qPure, qRange1 (by omega), qOk, sumLoop (f := fun j => pv x k * (mx R k j * pv y j)), qOk, qOnly, qOk, upto_len, sm_mul]
    · rfl
    · intro j z t hj
      obtain ⟨jn, rfl⟩ := upto_at hj
      have lr : (R.getD k []).length = n := h.sq.row kn
      have e1 : oIx (ll R) (.int k) = .ok (vl (R.getD k [])) := by
        rw [qIxL, qIx (x := vl (R.getD k []))]
        rw [List.getElem?_map, List.getElem?_eq_getElem (by rw [h.sq.len]; exact kn), List.getD_eq_getElem?_getD, List.getElem?_eq_getElem (by rw [h.sq.len]; exact kn)]
        rfl
      have e2 : oIx (vl (R.getD k [])) (.int j) = .ok (.int (mx R k j)) := by
        rw [qIxL, qIx (getI (by omega))]
        rfl
      have e3 : oIx (vr x) (.int k) = .ok (.int (pv x k)) := by rw [qIxT, qIx (getI (by omega))]; rfl
      have e4 : oIx (vr y) (.int j) = .ok (.int (pv y j)) := by rw [qIxT, qIx (getI (by omega))]; rfl
      have b0 := h.bd _ (getD_in (xs := R) (i := k) (d := []) (by rw [h.sq.len]; exact kn)) _ (getD_in (xs := R.getD k []) (i := j) (d := 0) (by omega))
      have b0 : -1000 ≤ mx R k j ∧ mx R k j ≤ 1000 := b0
      have b1 : (pv x k).natAbs < 2 ^ 1000 := px _ (getD_in (by omega))
      have b2 : (pv y j).natAbs < 2 ^ 1000 := py _ (getD_in (by omega))
      have b3 : (mx R k j * pv x k).natAbs ≤ 1000 * 2 ^ 1000 := abs_mul_le (by omega) (Nat.le_of_lt b1)
      have b4 : 1000 * 2 ^ 1000 < 2 ^ 1100 := by decide
      have b5 : 2 ^ 1000 < 2 ^ 1100 := by decide
      unfold l__law_times_1
      rw [e1, qOk, e2, qOk, e3, qOk, qMulL _ (smB (b := 1000) (by decide) b0), qOk, e4, qOk, qMulW (Nat.lt_of_le_of_lt b3 b4) (Nat.lt_trans b2 b5), qOk, qAdd, qOk]
      have e5 : mx R k j * pv x k * pv y j = pv x k * (mx R k j * pv y j) := by rw [Int.mul_comm (mx R k j), Int.mul_assoc]
      rw [e5]
      rfl
end K05

set_option exponentiation.threshold 3000
/-! draws -/
namespace K05
open PySem PySem.Spec PyProof.Rows L2 Tv Mt

theorem dip_go {n : Nat} {S : Cells} {top : Int} {Q : Val → Cells → Prop} (h : Pail n S) (h1 : 0 < top) (h2 : top < 1073741824) (q : ∀ (d : Nat) S', (d : Int) < top → Pail n S' → Q (.int d) S') : Go (m__law_dip [.cell n, .int top]) S Q := by
  have q : ∀ (d : Int) S', 0 ≤ d → d < top → Pail n S' → Q (.int d) S' := fun d S' a b p => by
    have := q d.toNat S' (by omega) p
    rwa [Int.toNat_of_nonneg a] at this
  obtain ⟨a, s, t, e, ha, hs⟩ := h
  have hn : n < S.length := (List.getElem?_eq_some_iff.mp e).1
  have set1 : ∀ {S : Cells} {v : Val}, n < S.length → (S.set n v)[n]? = some v := fun h => by rw [List.getElem?_set_self h]
  rw [q__law_dip]
  unfold n__law_dip
  refine Go.bind (Go.bind (goIx (i := 2) e rfl (Go.of (qAdd t 1) ?_)))
  refine Go.bind (goSet (i := 2) e (Nat.le_of_ble_eq_true rfl) (Nat.le_of_ble_eq_true rfl) ?_)
  have e1 : (S.set n (.lst ([Val.int a, .int s, .int t].set 2 (.int (t + 1)))))[n]? = some (.lst [.int a, .int s, .int (t + 1)]) := set1 hn
  have hn1 : n < (S.set n (.lst ([Val.int a, .int s, .int t].set 2 (.int (t + 1))))).length := by rw [List.length_set]; exact hn
  refine Go.bind (Go.bind (goIx (i := 0) e1 rfl (Go.of (a := decide (0 < a)) (by rw [qGt, qOk, qBl]) ?_)))
  refine Go.ite (fun c => ?_) (fun c => ?_)
  · refine Go.bind (Go.bind (Go.bind (goIx (i := 0) e1 rfl (Go.pure (Go.of (qDivmod a h1 h2) ?_)))))
    rw [Tv.q2]
    refine Go.bind (goSet (i := 0) e1 (Nat.le_of_ble_eq_true rfl) (Nat.le_of_ble_eq_true rfl) (Go.pure (q _ _ (Int.emod_nonneg _ (by omega)) (Int.emod_lt_of_pos _ h1) ?_)))
    exact ⟨a / top, s, t + 1, set1 hn1, Int.ediv_nonneg ha (by omega), hs⟩
  · refine Go.bind (Go.bind (Go.bind (Go.bind (Go.bind (Go.bind (goIx (i := 1) e1 rfl (Go.of (qMulR s (by decide)) (Go.bind (Go.bind (goIx (i := 2) e1 rfl (Go.of (qMulL (t + 1) (by decide)) (Go.of (qAdd _ _) (Go.pure (Go.of (qIntI _) (Go.of (qMod _ (by decide)) ?_)))))))))))))))
    have hs2 : 0 ≤ (s * 48271 + 50021 * (t + 1)) % 2147483399 := Int.emod_nonneg _ (by decide)
    generalize (s * 48271 + 50021 * (t + 1)) % 2147483399 = s2 at hs2 ⊢
    refine Go.bind (goSet (i := 1) e1 (Nat.le_of_ble_eq_true rfl) (Nat.le_of_ble_eq_true rfl) ?_)
    generalize hS2 : (S.set n (.lst ([Val.int a, .int s, .int t].set 2 (.int (t + 1))))).set n (.lst ([Val.int a, .int s, .int (t + 1)].set 1 (.int s2))) = S2
    have e2 : S2[n]? = some (.lst [.int a, .int s2, .int (t + 1)]) := by rw [← hS2]; exact set1 hn1
    refine Go.bind (Go.bind (Go.bind (Go.bind (goIx (i := 1) e2 rfl (Go.of (qFdiv s2 (by decide) (by decide)) (Go.pure (Go.of (qIntI _) ?_)))))))
    refine Go.of (qMod _ h1) (q _ _ (Int.emod_nonneg _ (by omega)) (Int.emod_lt_of_pos _ h1) ?_)
    exact ⟨a, s2, t + 1, e2, ha, hs2⟩
theorem one_go {n : Nat} {S : Cells} {xs : List Val} {Q : Val → Cells → Prop} (h : Pail n S) (h1 : 0 < xs.length) (h2 : xs.length < 1000) (q : ∀ x S', x ∈ xs → Pail n S' → Q x S') : Go (m__law_one_of [.cell n, .lst xs]) S Q := by
  rw [q__law_one_of]
  unfold n__law_one_of
  refine Go.bind (Go.bind (Go.bind (Go.ofB (qLenL xs) (Go.pure (Go.pure (dip_go h (by omega) (by omega) fun d S' hd p => ?_))))))
  have hd : d < xs.length := by omega
  refine ⟨xs[d], S', ?_, q _ _ (List.getElem_mem hd) p⟩
  show (ixV xs (d : Int), S') = _
  rw [qIx (List.getElem?_eq_getElem hd)]
theorem cut5 (ns : List Int) : ∃ ks : List Int, cutA (ns.map Val.int) none (some 5) = ks.map Val.int ∧ ks.length ≤ ns.length := by
  refine ⟨ns.take 5, ?_, ?_⟩
  · have := cutTake (ns.map Val.int) 5
    rw [List.map_take]
    exact this
  · rw [List.length_take]
    omega
theorem jar_go {ns : List Int} {turn : Nat} {S : Cells} {Q : Val → Cells → Prop} (hl : ns.length ≤ 63) (ht : turn ≤ 1000) (q : ∀ n S', Pail n S' → Q (.cell n) S') : Go (m__law_jar [.scr (ns.map .int), .int turn]) S Q := by
  have l1 : fLen [.scr (ns.map Val.int)] = .ok (.int ns.length) := by rw [qLenS, List.length_map]
  rw [q__law_jar]
  unfold n__law_jar
  refine Go.bind (Go.mono (Q := fun v S' => S' = S ∧ ∃ f : Int, v = .int f) ?_ ?_)
  · refine Go.bind (Go.ofB l1 (Go.of (a := decide ((turn : Int) < ns.length)) (by rw [qLt, qOk, qBl]) ?_))
    refine Go.ite (fun c => ?_) (fun c => ?_)
    · have c := of_decide_eq_true c
      have ht2 : turn < ns.length := by omega
      refine ⟨.int ns[turn], S, ?_, rfl, _, rfl⟩
      show (ixV (ns.map Val.int) (turn : Int), S) = _
      rw [qIx (x := .int ns[turn]) (by rw [List.getElem?_map, List.getElem?_eq_getElem ht2]; rfl)]
    · exact Go.ofB (qMulR 17 (smallNat (by omega))) (Go.of (qAdd _ _) ⟨rfl, _, rfl⟩)
  rintro _ _ ⟨rfl, f, rfl⟩
  refine Go.bind (Go.ofB (qMulR 7019 (smallNat (by omega))) (Go.of (qAdd _ _) ?_))
  obtain ⟨ks, ek, lk⟩ := cut5 ns
  have sl : oSl (.scr (ns.map Val.int)) none (some 5) = .ok (.lst (ks.map Val.int)) := by
    show Res.ok (Val.lst _) = _
    rw [ek]
  have cat : oAdd (.lst (ks.map Val.int)) (.lst [.int f]) = .ok (.lst ((ks ++ [f]).map Val.int)) := by
    rw [qCatL (by rw [List.length_map]; show _ + 1 ≤ _; omega), List.map_append]; rfl
  refine Go.bind (Go.mono (Q := fun v _ => ∃ s : Int, v = .int s ∧ 0 ≤ s) ?_ ?_)
  · refine Go.onlyNx (Go.bind (Go.bind (Go.bind (Go.bind (Go.of (a := some 5) rfl (Go.of sl (Go.ofB (qLst (Nat.le_of_ble_eq_true rfl)) (Go.of cat (Go.of (qItL _) ?_)))))))))
    refine (Go.forOn (fun (d : List Val) (st : Val) (_ : Cells) => ∃ s : Int, st = .int s ∧ 0 ≤ s) _ [] _ _ ?_ ⟨_, rfl, by omega⟩)
    rintro d x r _ S2 e ⟨s, rfl, hs⟩
    have hx : x ∈ List.map Val.int (ks ++ [f]) := by
      rw [List.nil_append] at e
      rw [e]; simp
    obtain ⟨i, _, rfl⟩ := List.mem_map.mp hx
    unfold l__law_jar_1
    refine Go.bind (Go.bind (Go.bind (Go.bind (Go.ofB (qMulR s (by decide)) (Go.of (qAdd _ _) (Go.pure (Go.of (qIntI _) (Go.of (qMod _ (by decide)) ?_))))))))
    exact Go.pure ⟨_, rfl, _, rfl, Int.emod_nonneg _ (by decide)⟩
  rintro _ S2 ⟨s, rfl, hs⟩
  refine Go.bind (Go.bind (Go.mono (Q := fun v _ => ∃ a : Int, v = .int a ∧ 0 ≤ a) ?_ ?_))
  · refine Go.bind (Go.mono (Q := fun _ _ => True) ?_ fun t S' _ => Go.ite (fun c => Go.of (a := Val.int (if f < 0 then -f else f)) rfl ⟨_, rfl, by split <;> omega⟩) (fun c => Go.pure ⟨_, rfl, by decide⟩))
    refine Go.bind (Go.of (a := decide (f < 0)) (by rw [qLt, qOk, qBl]) (Go.ite (fun _ => Go.pure trivial) (fun _ => ?_)))
    exact Go.ofB (a := Val.int (10 ^ 18)) rfl (Go.of (a := decide ((10 ^ 18 : Int) ≤ f)) (by rw [qGe, qOk, qBl]) trivial)
  rintro _ S3 ⟨a, rfl, ha⟩
  refine Go.pure ⟨.cell S3.length, S3 ++ [.lst [.int a, .int s, .int 0]], ?_, q _ _ ⟨a, s, 0, ?_, ha, hs⟩⟩
  · rfl
  · rw [List.getElem?_append_right (Nat.le_refl _), Nat.sub_self]; rfl
end K05

set_option exponentiation.threshold 3000
/-! drawn tables, drawn points -/
namespace K05
open PySem PySem.Spec PyProof.Rows L2 Tv Mt

theorem mRows {R : List (List Int)} {f : Val → M (List Val)} (hf : ∀ x, f x = Mon.of (seqL x)) : mapO f (R.map vl) = (Mon.of (.ok (rowsV R)) : M (List (List Val))) := by
  induction R with
  | nil => rfl
  | cons r R ih =>
    show (f (vl r) >>= fun y => mapO f (R.map vl) >>= fun ys => Pure.pure (y :: ys)) = _
    rw [hf, ih]
    rfl
/-- a table so far -/
structure Rb (b : Int) (n : Nat) (R : List (List Int)) : Prop where
  sq : Sqr n R
  pos : 1 ≤ n
  le : n ≤ 5
  bd : Bd b R
  sy : symm n (mx R)
  su : sure n (mx R)
theorem Rb.mono {b c : Int} {n : Nat} {R : List (List Int)} (h : Rb b n R) (hc : b ≤ c) : Rb c n R := ⟨h.sq, h.pos, h.le, h.bd.mono hc, h.sy, h.su⟩
theorem Rb.rt {b : Int} {n : Nat} {R : List (List Int)} (h : Rb b n R) (hc : b ≤ 1000) : Rt n R := ⟨h.sq, h.pos, h.le, h.bd.mono hc, h.sy, h.su⟩
theorem symm_congr {n : Nat} {A B : Mx} (h : ∀ i j, i < n → j < n → A i j = B i j) (s : symm n A) : symm n B := fun i j hi hj => by rw [← h i j hi hj, ← h j i hj hi, s i j hi hj]
/-- the other place that is drawn -/
theorem two_ne {one n : Nat} {d : Nat} (h1 : one < n) (hd : d < n - 1) : ∃ two : Nat, ((one : Int) + 1 + (d : Int)) % (n : Int) = (two : Int) ∧ two < n ∧ one ≠ two := by
  refine ⟨(one + 1 + d) % n, ?_, Nat.mod_lt _ (by omega), ?_⟩
  · rw [show ((one : Int) + 1 + (d : Int)) = ((one + 1 + d : Nat) : Int) by omega]; rfl
  · by_cases c : one + 1 + d < n
    · rw [Nat.mod_eq_of_lt c]; omega
    · rw [Nat.mod_eq_sub_mod (by omega), Nat.mod_eq_of_lt (by omega)]; omega
theorem rows_go {n : Nat} {S : Cells} {most top : Int} {Q : Val → Cells → Prop} (h : Pail n S) (hm : 0 < most) (hm2 : most ≤ 5) (ht : 0 < top) (ht2 : top ≤ 40) (q : ∀ k R S', k ≤ most.toNat → Rb 302 k R → Pail n S' → Q (ll R) S') : Go (m__law_rows [.cell n, .int most, .int top]) S Q := by
  rw [q__law_rows]
  unfold n__law_rows
  -- the factors
  refine Go.bind (Go.mono (Q := fun v S' => (∃ k R, k ≤ most.toNat ∧ v = ll R ∧ Rb 299 k R) ∧ Pail n S') ?_ ?_)
  · refine Go.bind (Go.bind (Go.bind (Go.bind (Go.bind (Go.bind (dip_go h hm (by omega) fun d S1 hd p1 => Go.of (qAdd _ _) (Go.pure ?_)))))))
    have e : (1 + (d : Int)) = ((1 + d : Nat) : Int) := by omega
    rw [e, qRange1 (by omega)]
    refine Go.of rfl (Go.bind (Go.nx ((Go.mapOn (R := fun y => ∃ f : Int, y = .int f ∧ 1 ≤ f ∧ f ≤ top) (P := Pail n) _ S1 (fun x _ S2 p2 => ?_) p1).mono ?_)))
    · unfold l__law_rows_1
      exact Go.bind (dip_go p2 ht (by omega) fun d S3 hd p3 => Go.of (qAdd _ _) ⟨⟨_, rfl, by omega, by omega⟩, p3⟩)
    rintro ys S2 ⟨⟨hl, hr⟩, p2⟩
    rw [upto_len] at hl
    obtain ⟨fs, rfl, hf⟩ : ∃ fs : List Int, ys = fs.map Val.int ∧ ∀ f ∈ fs, 1 ≤ f ∧ f ≤ top := by
      clear hl
      induction ys with
      | nil => exact ⟨[], rfl, fun _ z => nomatch z⟩
      | cons y ys ih =>
        obtain ⟨fs, e, g⟩ := ih fun z hz => hr z (List.mem_cons_of_mem _ hz)
        obtain ⟨f, ef, g1⟩ := hr y List.mem_cons_self
        refine ⟨f :: fs, by rw [e, ef]; rfl, fun z hz => ?_⟩
        rcases List.mem_cons.mp hz with z' | z'
        · rw [z']; exact g1
        · exact g z z'
    rw [List.length_map] at hl
    refine Go.of (qLst (by rw [List.length_map]; omega)) (Go.pure (Go.of (square_ok (fs := fs) (by omega)) ⟨⟨fs.length, _, by omega, rfl, ?_⟩, p2⟩))
    refine ⟨sqR_sq fs, by omega, by omega, (sqR_bd (b := top) (fun e he => by have := hf e he; omega) (by omega)).mono (by omega), symm_congr (fun i j hi hj => (sqR_mx fs i j hi hj).symm) (dia_symm _), sure_congr (fun i j hi hj => (sqR_mx fs i j hi hj).symm) (dia_sure fun i hi => ?_)⟩
    have := hf _ (getD_in (xs := fs) (i := i) (d := 0) hi)
    omega
  rintro _ S1 ⟨⟨k, R, hk, rfl, hR⟩, p1⟩
  have lenR : ∀ {b : Int} {R : List (List Int)}, Rb b k R → fLen [ll R] = .ok (.int (k : Int)) := fun {b R} h => by rw [qLenL, List.length_map, h.sq.len]
  -- how often
  have turns : ∀ {b : Int} {R : List (List Int)} {S1 : Cells} {c : Int} {Q : Val → Cells → Prop}, Rb b k R → Pail n S1 → 0 < c → c ≤ 10 → (∀ (m : Nat) S', (m : Int) < c → (0 < m → 1 < k) → Pail n S' → Q (.int m) S') →
      Go ((Mon.of (fLen [ll R]) >>= fun x102 => Mon.of (oGt x102 (.int 1) >>= vBl)) >>= fun t109 => if t109 = true then m__law_dip [.cell n, .int c] else Pure.pure (.int 0)) S1 Q := fun {b R S1 c Q} h p hc hc2 q => by
    repeat (first | with_reducible refine Go.bind ?_ | with_reducible refine Go.pure ?_)
    refine Go.of (lenR h) ?_
    repeat (first | with_reducible refine Go.bind ?_ | with_reducible refine Go.pure ?_)
    refine Go.of (a := decide ((1 : Int) < k)) (by rw [qGt, qOk, qBl]) ?_
    refine Go.ite (fun g => ?_) (fun g => ?_)
    · have g := of_decide_eq_true g
      exact dip_go p hc (by omega) fun d S' hd p' => q d S' hd (fun _ => by omega) p'
    · exact Go.pure (q 0 _ (by omega) (fun z => absurd z (by omega)) p)
  -- the two places
  have places : ∀ {b : Int} {R : List (List Int)} {S1 : Cells} {α : Type} {f : Val → Val → M α} {Q : α → Cells → Prop}, Rb b k R → Pail n S1 → 1 < k → (∀ (one two : Nat) S', one < k → two < k → one ≠ two → Pail n S' → Go (f (.int one) (.int two)) S' Q) →
      Go ((((Mon.of (fLen [ll R]) >>= fun x28 => Pure.pure [x28]) >>= fun xs34 => Pure.pure (Val.cell n :: xs34)) >>= fun xs27 => m__law_dip xs27) >>= fun v_one35 =>
        ((((Mon.of (oAdd v_one35 (.int 1)) >>= fun x50 => ((((Mon.of (fLen [ll R]) >>= fun x46 => Mon.of (oSub x46 (.int 1))) >>= fun x41 => Pure.pure [x41]) >>= fun xs49 => Pure.pure (Val.cell n :: xs49)) >>= fun xs40 => m__law_dip xs40) >>= fun x51 => Mon.of (oAdd x50 x51)) >>= fun x36 => Pure.pure [x36]) >>= fun xs52 => Mon.of (fInt xs52)) >>= fun x56 => Mon.of (fLen [ll R]) >>= fun x57 => Mon.of (oMod x56 x57)) >>= fun v_two58 => f v_one35 v_two58) S1 Q := fun {b R S1 α f Q} h p hk1 q => by
    have hk5 := h.le
    repeat (first | with_reducible refine Go.bind ?_ | with_reducible refine Go.pure ?_)
    refine Go.of (lenR h) ?_
    repeat (first | with_reducible refine Go.bind ?_ | with_reducible refine Go.pure ?_)
    refine dip_go p (by omega) (by omega) fun one S2 h1 p2 => ?_
    repeat (first | with_reducible refine Go.bind ?_ | with_reducible refine Go.pure ?_)
    refine Go.of (qAdd _ _) ?_
    repeat (first | with_reducible refine Go.bind ?_ | with_reducible refine Go.pure ?_)
    refine Go.of (lenR h) ?_
    repeat (first | with_reducible refine Go.bind ?_ | with_reducible refine Go.pure ?_)
    refine Go.of (qSub _ _) ?_
    repeat (first | with_reducible refine Go.bind ?_ | with_reducible refine Go.pure ?_)
    refine dip_go p2 (by omega) (by omega) fun d S3 hd p3 => ?_
    repeat (first | with_reducible refine Go.bind ?_ | with_reducible refine Go.pure ?_)
    refine Go.of (qAdd _ _) ?_
    repeat (first | with_reducible refine Go.bind ?_ | with_reducible refine Go.pure ?_)
    refine Go.of (qIntI _) ?_
    repeat (first | with_reducible refine Go.bind ?_ | with_reducible refine Go.pure ?_)
    refine Go.of (lenR h) ?_
    repeat (first | with_reducible refine Go.bind ?_ | with_reducible refine Go.pure ?_)
    refine Go.of (qMod _ (by omega)) ?_
    obtain ⟨two, e2, h2, hn⟩ := two_ne (n := k) (one := one) (d := d) (by omega) (by omega)
    rw [e2]
    exact q one two S3 (by omega) h2 hn p3
  have mem0 : ∀ {m : Nat} {d r : List Val} {x : Val}, [] ++ upto m = d ++ x :: r → d.length < m := fun {m d r x} e => by
    have := congrArg List.length e
    rw [List.nil_append, upto_len, List.length_append, List.length_cons] at this
    omega
  -- turned about
  refine Go.bind (Go.mono (Q := fun v S' => (∃ R, v = ll R ∧ Rb 299 k R) ∧ Pail n S') ?_ ?_)
  · refine Go.onlyNx ?_
    refine Go.bind (Go.bind (Go.bind (turns hR p1 (by decide) (by decide) fun m S2 hm mk p2 => ?_)))
    repeat (first | with_reducible refine Go.bind ?_ | with_reducible refine Go.pure ?_)
    rw [qRange1 (by omega)]
    refine Go.of rfl ((Go.forOn (fun (d : List Val) (st : Val) S' => (∃ R, st = ll R ∧ Rb 299 k R) ∧ Pail n S') _ [] _ _ ?_ ⟨⟨R, rfl, hR⟩, p2⟩))
    rintro d x r _ S3 e ⟨⟨R, rfl, hR⟩, p3⟩
    have hk1 := mk (by have := mem0 e; omega)
    unfold l__law_rows_2
    refine places hR p3 hk1 fun one two S4 h1 h2 hn p4 => ?_
    refine Go.bind (Go.mono (Q := fun v S' => (∃ R', v = ll R' ∧ Sqr k R' ∧ symm k (mx R') ∧ sure k (mx R')) ∧ Pail n S') ?_ ?_)
    · repeat (first | with_reducible refine Go.bind ?_ | with_reducible refine Go.pure ?_)
      refine Go.of (qNeg 1) ?_
      repeat (first | with_reducible refine Go.bind ?_ | with_reducible refine Go.pure ?_)
      refine Go.of (qNeg 1) ?_
      repeat (first | with_reducible refine Go.bind ?_ | with_reducible refine Go.pure ?_)
      refine Go.of (qLst (Nat.le_of_ble_eq_true rfl)) ?_
      repeat (first | with_reducible refine Go.bind ?_ | with_reducible refine Go.pure ?_)
      refine one_go p4 (by decide) (by decide) fun x S5 hx p5 => ?_
      repeat (first | with_reducible refine Go.bind ?_ | with_reducible refine Go.pure ?_)
      obtain ⟨many, rfl, hmany⟩ : ∃ i : Int, x = .int i ∧ smallB i = true := by
        simp only [List.mem_cons, List.not_mem_nil, or_false] at hx
        rcases hx with rfl | rfl | rfl | rfl | rfl <;> exact ⟨_, rfl, by decide⟩
      obtain ⟨R', e', s', m'⟩ := spun_ok hR.sq (by have := hR.le; omega) h1 h2 hmany
      exact Go.of e' ⟨⟨R', rfl, s', symm_congr (fun i j hi hj => (m' i j hi hj).symm) (spun_symm hR.sy h1 h2), sure_congr (fun i j hi hj => (m' i j hi hj).symm) (spun_sure hR.sy h1 h2 hn hR.su)⟩, p5⟩
    rintro _ S5 ⟨⟨R', rfl, s', y', u'⟩, p5⟩
    obtain ⟨g, eg, bg⟩ := greatest_ok s' (by omega) (by have := hR.le; omega)
    refine Go.bind (Go.mono (Q := fun v S' => (∃ R, v = ll R ∧ Rb 299 k R) ∧ Pail n S') ?_ ?_)
    · refine Go.bind (Go.mono (Q := fun t S' => (t = true → g < 300) ∧ Pail n S') ?_ ?_)
      · refine Go.bind (Go.ofB eg (Go.of (a := decide (g < 300)) (by rw [qLt, qOk, qBl]) (Go.ite (fun c => Go.pure ⟨fun _ => of_decide_eq_true c, p5⟩) (fun _ => Go.of (a := decide (40 < top)) (by rw [qGt, qOk, qBl]) ⟨fun c => absurd (of_decide_eq_true c) (by omega), p5⟩))))
      · rintro t S6 ⟨hg, p6⟩
        exact Go.ite (fun c => Go.pure ⟨⟨R', rfl, s', hR.pos, hR.le, bg.mono (by have := hg c; omega), y', u'⟩, p6⟩) (fun _ => Go.pure ⟨⟨R, rfl, hR⟩, p6⟩)
    rintro _ S6 ⟨⟨R'', rfl, h''⟩, p6⟩
    exact Go.pure ⟨_, rfl, ⟨R'', rfl, h''⟩, p6⟩
  rintro _ S2 ⟨⟨R, rfl, hR⟩, p2⟩
  -- entries one more
  refine Go.bind (Go.mono (Q := fun v S' => (∃ R, v = ll R ∧ Rb 302 k R) ∧ Pail n S') ?_ ?_)
  · refine Go.onlyNx ?_
    refine Go.bind (Go.bind (Go.bind (turns hR p2 (by decide) (by decide) fun m S3 hm mk p3 => ?_)))
    repeat (first | with_reducible refine Go.bind ?_ | with_reducible refine Go.pure ?_)
    rw [qRange1 (by omega)]
    refine Go.of rfl ((Go.forOn (fun (d : List Val) (st : Val) S' => (∃ R, st = ll R ∧ Rb (299 + d.length) k R) ∧ Pail n S') _ [] _ _ ?_ ⟨⟨R, rfl, hR.mono (by simp)⟩, p3⟩).mono ?_)
    · rintro d x r _ S4 e ⟨⟨R, rfl, hR⟩, p4⟩
      have hd := mem0 e
      have hk1 := mk (by omega)
      have hk5 := hR.le
      unfold l__law_rows_4
      refine places hR p4 hk1 fun one two S5 h1 h2 hn p5 => ?_
      have ec : (Mon.of (vIter (ll R)) >>= fun xs148 => Mon.nx (mapO l__law_rows_3 xs148) >>= fun ys149 => (Mon.of (vLst2 ys149) : M (List (List Val)))) = Mon.of (.ok (rowsV R)) := by
        rw [qItL, mOk, mRows (f := l__law_rows_3) (fun _ => rfl), mNxOk, mOk]
        unfold vLst2
        rw [if_pos]
        unfold rowsV
        rw [List.length_map, hR.sq.len]
        exact Nat.le_trans (by omega) sizeBig
      have sq1 := setE_sq (t := two) (v := mx R one two + 1) hR.sq h1
      have mx1 := setE_mx (v := mx R one two + 1) hR.sq h1 h2
      have sq2 := setE_sq (t := one) (v := mx R one two + 1) sq1 h2
      have mx2 := setE_mx (v := mx R one two + 1) sq1 h2 h1
      generalize hR1 : setE R one two (mx R one two + 1) = R1 at sq1 mx1 sq2 mx2
      generalize hR2 : setE R1 two one (mx R one two + 1) = R2 at sq2 mx2
      have m12 : mx R1 one two = mx R one two + 1 := by rw [mx1, if_pos ⟨rfl, rfl⟩]
      rw [ec, mOk, rowOf_ok' hR.sq h1, mOk, ixL_ok' hR.sq h1 h2, mOk, qAdd, mOk, mOk, setRow_ok' hR.sq h1 h2, mOk, hR1, rowOf_ok' sq1 h1, mOk, ixL_ok' sq1 h1 h2, mOk, rowOf_ok' sq1 h2, mOk, m12, setRow_ok' sq1 h2 h1, mOk, hR2, ll_rowsV]
      have bd2 : Bd (299 + d.length + 1) R2 := by
        have at_ : ∀ i j, i < k → j < k → -(299 + (d.length : Int) + 1) ≤ mx R2 i j ∧ mx R2 i j ≤ 299 + d.length + 1 := fun i j hi hj => by
          have b0 : ∀ i j, i < k → j < k → -(299 + (d.length : Int)) ≤ mx R i j ∧ mx R i j ≤ 299 + d.length := fun i j hi hj => hR.bd _ (getD_in (xs := R) (i := i) (d := []) (by rw [hR.sq.len]; exact hi)) _ (getD_in (by rw [hR.sq.row hi]; exact hj))
          have b1 := b0 one two h1 h2
          have b2 := b0 i j hi hj
          rw [mx2, mx1]
          repeat' split
          all_goals omega
        intro r hr e he
        obtain ⟨i, hi, ei⟩ := List.mem_iff_getElem.mp hr
        subst ei
        obtain ⟨j, hj, ej⟩ := List.mem_iff_getElem.mp he
        subst ej
        have hi2 : i < k := by rw [← sq2.len]; exact hi
        have hj2 : j < k := by rw [← sq2.all _ hr]; exact hj
        have := at_ i j hi2 hj2
        have z : mx R2 i j = R2[i][j] := by
          unfold mx
          rw [List.getD_eq_getElem?_getD (l := R2), List.getElem?_eq_getElem hi, Option.getD_some, List.getD_eq_getElem?_getD, List.getElem?_eq_getElem hj, Option.getD_some]
        rw [z] at this
        exact this
      have sy2 : symm k (mx R2) := fun i j hi hj => by
        have s0 := hR.sy i j hi hj
        have s1 := hR.sy one two h1 h2
        rw [mx2, mx2, mx1, mx1]
        repeat' split
        all_goals omega
      rw [lsure_ok (b := 1000) (by decide) sq2 (bd2.mono (by omega)) (by omega), mOk, qTru, mOk]
      refine Go.bind (Go.mono (Q := fun v S' => (∃ R, v = ll R ∧ Rb (299 + d.length + 1) k R) ∧ Pail n S') (Go.ite (fun c => Go.pure ⟨⟨R2, rfl, sq2, hR.pos, hR.le, bd2, sy2, sureB_iff.mp c⟩, p5⟩) (fun _ => Go.pure ⟨⟨R, rfl, hR.mono (by omega)⟩, p5⟩)) ?_)
      rintro _ S6 ⟨⟨R'', rfl, h''⟩, p6⟩
      refine Go.pure ⟨_, rfl, ⟨R'', rfl, h''.mono ?_⟩, p6⟩
      rw [List.length_append]
      show _ ≤ 299 + ((d.length + 1 : Nat) : Int)
      omega
    · rintro _ S4 ⟨st, rfl, ⟨R, rfl, hR⟩, p4⟩
      rw [List.nil_append, upto_len] at hR
      exact ⟨_, rfl, ⟨R, rfl, hR.mono (by omega)⟩, p4⟩
  rintro _ S3 ⟨⟨R, rfl, hR⟩, p3⟩
  exact Go.pure (q k R S3 hk hR p3)
end K05

set_option exponentiation.threshold 3000
/-! the law -/
namespace K05
open PySem PySem.Spec PyProof.Rows L2 Tv Mt

/-- small places -/
def Ps (b : Nat) (p : List Int) : Prop := ∀ e ∈ p, e.natAbs < 2 ^ b
theorem Ps.pb {b : Nat} {p : List Int} (h : Ps b p) (hb : b ≤ 1000) : Pb p := fun e he => Nat.lt_of_lt_of_le (h e he) (Nat.pow_le_pow_right (by decide) hb)
theorem point_go {n k : Nat} {S : Cells} {Q : Val → Cells → Prop} (h : Pail n S) (hk : k ≤ 10) (q : ∀ p S', p.length = k → Ps 90 p → Pail n S' → Q (vr p) S') : Go (m__law_point [.cell n, .int k]) S Q := by
  rw [q__law_point]
  unfold n__law_point
  repeat (first | with_reducible refine Go.bind ?_ | with_reducible refine Go.pure ?_)
  refine Go.of (qNeg 1) ?_
  repeat (first | with_reducible refine Go.bind ?_ | with_reducible refine Go.pure ?_)
  refine Go.of (qNeg 3) ?_
  repeat (first | with_reducible refine Go.bind ?_ | with_reducible refine Go.pure ?_)
  refine Go.of (a := Val.int (10 ^ 25)) rfl ?_
  repeat (first | with_reducible refine Go.bind ?_ | with_reducible refine Go.pure ?_)
  refine Go.of (a := Val.int (10 ^ 12)) rfl ?_
  repeat (first | with_reducible refine Go.bind ?_ | with_reducible refine Go.pure ?_)
  refine Go.of (qNeg _) ?_
  repeat (first | with_reducible refine Go.bind ?_ | with_reducible refine Go.pure ?_)
  refine dip_go h (by decide) (by decide) fun d S1 hd p1 => ?_
  repeat (first | with_reducible refine Go.bind ?_ | with_reducible refine Go.pure ?_)
  refine Go.of (qLst (Nat.le_of_ble_eq_true rfl)) ?_
  generalize hmenu : [Val.int 0, .int 1, .int (-1), .int 2, .int (-3), .int 7, .int (10 ^ 25), .int (-(10 ^ 12)), .int (d : Int)] = menu
  have hm : ∀ x ∈ menu, ∃ i : Int, x = .int i ∧ i.natAbs < 2 ^ 90 := by
    intro x hx
    subst hmenu
    simp only [List.mem_cons, List.not_mem_nil, or_false] at hx
    rcases hx with rfl | rfl | rfl | rfl | rfl | rfl | rfl | rfl | rfl <;> first | exact ⟨_, rfl, by decide⟩ | exact ⟨_, rfl, Nat.lt_of_lt_of_le (show (d : Int).natAbs < 1000 by omega) (by decide)⟩
  repeat (first | with_reducible refine Go.bind ?_ | with_reducible refine Go.pure ?_)
  refine Go.of (qRange1 (by omega)) ?_
  repeat (first | with_reducible refine Go.bind ?_ | with_reducible refine Go.pure ?_)
  refine Go.nx ((Go.mapOn (R := fun y => ∃ i : Int, y = .int i ∧ i.natAbs < 2 ^ 90) (P := Pail n) _ S1 (fun x _ S2 p2 => ?_) p1).mono ?_)
  · unfold l__law_point_1
    exact one_go p2 (by subst hmenu; exact Nat.le_of_ble_eq_true rfl) (by subst hmenu; exact Nat.le_of_ble_eq_true rfl) fun x S3 hx p3 => ⟨hm x hx, p3⟩
  rintro ys S2 ⟨⟨hl, hr⟩, p2⟩
  rw [upto_len] at hl
  obtain ⟨fs, rfl, hf⟩ : ∃ fs : List Int, ys = fs.map Val.int ∧ ∀ f ∈ fs, f.natAbs < 2 ^ 90 := by
    clear hl
    induction ys with
    | nil => exact ⟨[], rfl, fun _ z => nomatch z⟩
    | cons y ys ih =>
      obtain ⟨fs, e, g⟩ := ih fun z hz => hr z (List.mem_cons_of_mem _ hz)
      obtain ⟨f, ef, g1⟩ := hr y List.mem_cons_self
      refine ⟨f :: fs, by rw [e, ef]; rfl, fun z hz => ?_⟩
      rcases List.mem_cons.mp hz with z' | z'
      · rw [z']; exact g1
      · exact g z z'
  refine Go.of (qLst (by rw [hl]; omega)) ?_
  repeat (first | with_reducible refine Go.bind ?_ | with_reducible refine Go.pure ?_)
  exact Go.of (qTupL _) (q fs S2 (by rw [List.length_map] at hl; exact hl) hf p2)
/-! values' bounds -/
theorem bil_abs {n : Nat} {R : List (List Int)} (h : Rt n R) {x y : List Int} {b : Nat} (hx : x.length = n) (hy : y.length = n) (px : Ps b x) (py : Ps b y) : (bil n (mx R) (pv x) (pv y)).natAbs ≤ 25000 * (2 ^ b * 2 ^ b) := by
  have h1 := h.le
  have : (bil n (mx R) (pv x) (pv y)).natAbs ≤ n * (2 ^ b * (n * (1000 * 2 ^ b))) := sm_abs fun i hi => abs_mul_le (Nat.le_of_lt (px _ (getD_in (by omega)))) (sm_abs fun j hj => abs_mul_le (by
    have := h.bd _ (getD_in (xs := R) (i := i) (d := []) (by rw [h.sq.len]; exact hi)) _ (getD_in (xs := R.getD i []) (i := j) (d := 0) (by rw [h.sq.row hi]; exact hj))
    have : -1000 ≤ mx R i j ∧ mx R i j ≤ 1000 := this
    omega) (Nat.le_of_lt (py _ (getD_in (by omega)))))
  refine Nat.le_trans this ?_
  have e1 : n * (2 ^ b * (n * (1000 * 2 ^ b))) = n * n * 1000 * (2 ^ b * 2 ^ b) := by
    simp only [Nat.mul_assoc, Nat.mul_left_comm, Nat.mul_comm]
  rw [e1]
  refine Nat.mul_le_mul_right _ ?_
  have : n * n ≤ 5 * 5 := Nat.mul_le_mul h1 h1
  omega
theorem log_lt {i : Int} {b : Nat} (h : i.natAbs < 2 ^ b) (hb : 0 < b) : i.natAbs.log2 < b := by
  by_cases z : i.natAbs = 0
  · rw [z]; simpa using hb
  · exact (Nat.log2_lt z).mpr h
theorem rep4 {a b c d : Int} (ha : a.natAbs < 2 ^ 1900) (hb : b.natAbs < 2 ^ 1900) (hc : c.natAbs < 2 ^ 1900) (hd : d.natAbs < 2 ^ 1900) : RepOk (.lst [.int a, .int b, .int c, .int d]) := by
  refine repr_ok (n := 1) (.inl ⟨_, rfl⟩) (dtB_lst fun x hx => ?_) (by decide) ?_ ?_
  · simp only [List.mem_cons, List.not_mem_nil, or_false] at hx
    rcases hx with rfl | rfl | rfl | rfl <;> exact dtB_int _ _
  · have f : ∀ {i : Int}, i.natAbs < 2 ^ 1900 → decide (i.natAbs.log2 < 1920) = true := fun h => decide_eq_true (by have := log_lt h (by decide); omega)
    simp only [shB, shBs, f ha, f hb, f hc, f hd, Bool.and_self]
  · simp [cst, csts]
/-! points -/
def addP (n : Nat) (x y : List Int) : List Int := (List.range n).map fun k => x.getD k 0 + y.getD k 0
theorem addP_len (n : Nat) (x y : List Int) : (addP n x y).length = n := by unfold addP; rw [List.length_map, List.length_range]
theorem addP_pv {n : Nat} (x y : List Int) : ∀ i, i < n → pv (addP n x y) i = pv x i + pv y i := fun i hi => by
  unfold pv addP
  rw [getD_range hi]
theorem addP_ps {n b : Nat} {x y : List Int} (hx : x.length = n) (hy : y.length = n) (px : Ps b x) (py : Ps b y) : Ps (b + 1) (addP n x y) := fun e he => by
  obtain ⟨i, hi, rfl⟩ := List.mem_map.mp he
  have hi := List.mem_range.mp hi
  have h1 := px _ (getD_in (xs := x) (i := i) (d := 0) (by omega))
  have h2 := py _ (getD_in (xs := y) (i := i) (d := 0) (by omega))
  rw [Nat.pow_succ]
  omega
theorem mulP_pv (c : Int) (x : List Int) (i : Nat) : pv (x.map (c * ·)) i = c * pv x i := by
  unfold pv
  rw [List.getD_eq_getElem?_getD, List.getElem?_map, List.getD_eq_getElem?_getD]
  cases x[i]? with
  | none => simp
  | some v => rfl
theorem mulP_ps {a b : Nat} {c : Int} {x : List Int} (hc : c.natAbs < 2 ^ a) (px : Ps b x) : Ps (a + b) (x.map (c * ·)) := fun e he => by
  obtain ⟨v, hv, rfl⟩ := List.mem_map.mp he
  show (c * v).natAbs < _
  rw [Int.natAbs_mul, Nat.pow_add]
  have h1 := px v hv
  exact Nat.mul_lt_mul'' hc h1
theorem zero_pv (n i : Nat) : pv (List.replicate n 0) i = 0 := by
  unfold pv
  rw [List.getD_eq_getElem?_getD, List.getElem?_replicate]
  split <;> rfl
theorem zeros_ok {n : Nat} (h1 : 1 ≤ n) (h5 : n ≤ 5) : (vTup [.int 0] >>= fun x => oMul x (.int (n : Int))) = .ok (vr (List.replicate n 0)) := by
  have : n = 1 ∨ n = 2 ∨ n = 3 ∨ n = 4 ∨ n = 5 := by omega
  rcases this with rfl | rfl | rfl | rfl | rfl <;> rfl
/-- above 0 but at noughts -/
theorem pos_iff {n : Nat} {R : List (List Int)} (h : Rt n R) {x : List Int} (hx : x.length = n) : 0 < bil n (mx R) (pv x) (pv x) ↔ x ≠ List.replicate n 0 := by
  constructor
  · intro p z
    rw [z, bil_zero fun i _ => zero_pv n i] at p
    exact absurd p (by decide)
  · intro z
    refine (sure_pd h.sy).mp h.su _ (Classical.byContradiction fun c => z ?_)
    have c : ∀ i, i < n → pv x i = 0 := fun i hi => Classical.byContradiction fun w => c ⟨i, hi, w⟩
    refine List.ext_getElem (by rw [List.length_replicate, hx]) fun i h1 h2 => ?_
    have := c i (by omega)
    unfold pv at this
    rw [List.getD_eq_getElem?_getD, List.getElem?_eq_getElem h1] at this
    rw [List.getElem_replicate]
    exact this
theorem isC_val (R : List (List Int)) : isC "Form" "value" (formV R) = .ok () := rfl
theorem isC_prod (R : List (List Int)) : isC "Form" "product" (formV R) = .ok () := rfl
theorem turn_go {n : Nat} {S : Cells} (h : Pail n S) (x : Val) : Go (l__law_right_3 (.cell n) () x) S fun fl S' => fl = .nx () ∧ Pail n S' := by
  unfold l__law_right_3
  refine Go.bind (rows_go h (by decide) (by decide) (by decide) (by decide) fun k R S1 hk hR p1 => ?_)
  have rt := hR.rt (by decide)
  have k1 := rt.pos
  have k5 := rt.le
  rw [made_ok rt, mOk, qLenL, List.length_map, rt.sq.len, mOk]
  repeat (first | with_reducible refine Go.bind ?_ | with_reducible refine Go.pure ?_)
  refine point_go p1 (by omega) fun one S2 l1 s1 p2 => ?_
  repeat (first | with_reducible refine Go.bind ?_ | with_reducible refine Go.pure ?_)
  refine point_go p2 (by omega) fun two S3 l2 s2 p3 => ?_
  repeat (first | with_reducible refine Go.bind ?_ | with_reducible refine Go.pure ?_)
  refine Go.of (qTup (Nat.le_of_ble_eq_true rfl)) ?_
  rw [Tv.q2]
  have b1 := s1.pb (by decide)
  have b2 := s2.pb (by decide)
  generalize hf : bil k (mx R) (pv one) (pv one) = first
  generalize hl : bil k (mx R) (pv two) (pv two) = last
  generalize hb : bil k (mx R) (pv one) (pv two) = both
  have hb' : bil k (mx R) (pv two) (pv one) = both := by rw [bil_symm rt.sy]; exact hb
  have v1 : m_Form_value [formV R, vr one] = .ok (.int first) := by rw [value_ok rt l1 b1, hf]
  have a1 : m_Form_product [formV R, vr one, vr two] = .ok (.int both) := by rw [prod_ok rt l1 l2 b1 b2, hb]
  have a2 : m_Form_product [formV R, vr two, vr one] = .ok (.int both) := by rw [prod_ok rt l2 l1 b2 b1, hb']
  have t1 : m__law_times [ll R, vr one, vr one] = .ok (.int first) := by rw [times_ok rt l1 l1 b1 b1, hf]
  have t2 : m__law_times [ll R, vr two, vr two] = .ok (.int last) := by rw [times_ok rt l2 l2 b2 b2, hl]
  have t3 : m__law_times [ll R, vr one, vr two] = .ok (.int both) := by rw [times_ok rt l1 l2 b1 b2, hb]
  have z1 : first.natAbs ≤ 25000 * (2 ^ 90 * 2 ^ 90) := hf ▸ bil_abs rt l1 l1 s1 s1
  have z2 : both.natAbs ≤ 25000 * (2 ^ 90 * 2 ^ 90) := hb ▸ bil_abs rt l1 l2 s1 s2
  have z3 : 25000 * (2 ^ 90 * 2 ^ 90) < 2 ^ 1900 := by decide
  have c1 : chkN 1 1 [formV R] [vr one] = .ok () := rfl
  have c2 : chkN 1 2 [formV R] [vr two, vr one] = .ok () := rfl
  obtain ⟨s, hs⟩ := rep4 (Nat.lt_of_le_of_lt z1 z3) (Nat.lt_of_le_of_lt z1 z3) (Nat.lt_of_le_of_lt z2 z3) (Nat.lt_of_le_of_lt z2 z3)
  have ql : vLst [.int first, .int first, .int both, .int both] = .ok (.lst [.int first, .int first, .int both, .int both]) := qLst (Nat.le_of_ble_eq_true rfl)
  simp only [isC_val, isC_prod, v1, a1, a2, t1, t2, t3, c1, c2, mOk, mPure, ql, hs, neSame, qOk, qBl, qNeI, beq_self_eq_true, Bool.not_true, Bool.false_eq_true, if_false]
  -- the sum of both points
  repeat (first | with_reducible refine Go.bind ?_ | with_reducible refine Go.pure ?_)
  refine Go.of (qRange1 (by omega)) ?_
  repeat (first | with_reducible refine Go.bind ?_ | with_reducible refine Go.pure ?_)
  refine Go.nx (Go.eq (mMapOf (g := fun i : Nat => Val.int (one.getD i 0 + two.getD i 0)) (fun i hi => ?_)) ?_)
  · have hi := List.mem_range.mp hi
    unfold l__law_right_1
    have e1 : (ixM (vr one) (.int (i : Int)) : M Val) = Mon.of (ixV (one.map Val.int) (i : Int)) := rfl
    have e2 : (ixM (vr two) (.int (i : Int)) : M Val) = Mon.of (ixV (two.map Val.int) (i : Int)) := rfl
    rw [e1, e2, qIx (getI (by omega)), mOk, qIx (getI (by omega)), mOk, qAdd]
    rfl
  have ea : (List.range k).map (fun i : Nat => Val.int (one.getD i 0 + two.getD i 0)) = (addP k one two).map Val.int := by
    unfold addP
    rw [List.map_map]; rfl
  rw [ea]
  have la := addP_len k one two
  have sa := addP_ps l1 l2 s1 s2
  refine Go.of (qLst (by rw [List.length_map, la]; omega)) ?_
  repeat (first | with_reducible refine Go.bind ?_ | with_reducible refine Go.pure ?_)
  refine Go.of (qTupL _) ?_
  have v2 : m_Form_value [formV R, vr (addP k one two)] = .ok (.int (first + 2 * both + last)) := by
    rw [value_ok rt la (sa.pb (by decide)), bil_congr (fun i j _ _ => rfl) (addP_pv one two) (addP_pv one two), bil_add, bil_add', bil_add', hf, hl, hb, hb', show first + both + (both + last) = first + 2 * both + last by omega]
  simp only [v2, mOk, mPure, qMulL _ (show smallB 2 = true by decide), qAdd, qNeI, beq_self_eq_true, Bool.not_true, qOk, qBl, Bool.false_eq_true, if_false]
  repeat (first | with_reducible refine Go.bind ?_ | with_reducible refine Go.pure ?_)
  refine Go.of (qNeg 1) ?_
  repeat (first | with_reducible refine Go.bind ?_ | with_reducible refine Go.pure ?_)
  refine Go.of (qNeg 20) ?_
  repeat (first | with_reducible refine Go.bind ?_ | with_reducible refine Go.pure ?_)
  refine Go.of (a := Val.int (10 ^ 15)) rfl ?_
  repeat (first | with_reducible refine Go.bind ?_ | with_reducible refine Go.pure ?_)
  refine Go.of (qLst (Nat.le_of_ble_eq_true rfl)) ?_
  repeat (first | with_reducible refine Go.bind ?_ | with_reducible refine Go.pure ?_)
  refine one_go p3 (Nat.le_of_ble_eq_true rfl) (Nat.le_of_ble_eq_true rfl) fun x S4 hx p4 => ?_
  obtain ⟨many, rfl, hmany⟩ : ∃ i : Int, x = .int i ∧ i.natAbs < 2 ^ 60 := by
    simp only [List.mem_cons, List.not_mem_nil, or_false] at hx
    rcases hx with rfl | rfl | rfl | rfl | rfl <;> exact ⟨_, rfl, by decide⟩
  have em : mapM' (l__law_right_2 (.int many)) (one.map Val.int) S4 = (.ok (one.map fun v => Val.int (many * v)), S4) := mMapOf fun v hv => by
    show (oMul (.int many) (.int v), S4) = _
    rw [qMulL _ (smallI (by omega) (by omega))]
  have e2 : one.map (fun v => Val.int (many * v)) = (one.map (many * ·)).map Val.int := by rw [List.map_map]; rfl
  have lm : (one.map (many * ·)).length = k := by rw [List.length_map, l1]
  have sm' := mulP_ps hmany s1
  repeat (first | with_reducible refine Go.bind ?_ | with_reducible refine Go.pure ?_)
  refine Go.of (qItT _) ?_
  repeat (first | with_reducible refine Go.bind ?_ | with_reducible refine Go.pure ?_)
  refine Go.nx (Go.eq em ?_)
  rw [e2]
  refine Go.of (qLst (by rw [List.length_map, lm]; omega)) ?_
  repeat (first | with_reducible refine Go.bind ?_ | with_reducible refine Go.pure ?_)
  refine Go.of (qTupL _) ?_
  have v3 : m_Form_value [formV R, vr (one.map (many * ·))] = .ok (.int (many * many * first)) := by
    rw [value_ok rt lm (sm'.pb (by decide)), bil_congr (fun i j _ _ => rfl) (fun i _ => mulP_pv many one i) (fun i _ => mulP_pv many one i), bil_mul, bil_mul', hf, Int.mul_assoc]
  have z4 : (many * many).natAbs < 2 ^ 1100 := by
    have := abs_mul_le (Nat.le_of_lt hmany) (Nat.le_of_lt hmany)
    exact Nat.lt_of_le_of_lt this (by decide)
  have z5 : first.natAbs < 2 ^ 1100 := Nat.lt_of_le_of_lt z1 (by decide)
  have v4 : m_Form_value [formV R, vr (List.replicate k 0)] = .ok (.int 0) := by
    rw [value_ok rt (List.length_replicate ..) (fun e he => by rw [List.eq_of_mem_replicate he]; decide), bil_zero fun i _ => zero_pv k i]
  have zk := zeros_ok k1 k5
  have zt : vTup [.int 0] = .ok (.tup [.int 0]) := qTup (Nat.le_of_ble_eq_true rfl)
  rw [zt, qOk] at zk
  have ne : oNe (vr one) (vr (List.replicate k 0)) = .ok (.bl (!decide (one = List.replicate k 0))) := by
    rw [(eqT_ok (dt_vr 0 one) (dt_vr 0 _) (by decide) (by decide)).2]
    unfold Tv.eqT
    rw [eqTs_int]
  have pi := pos_iff rt l1
  rw [hf] at pi
  have nb : oNe (.bl (decide (0 < first))) (.bl (!decide (one = List.replicate k 0))) = .ok (.bl false) := by
    have : decide (0 < first) = !decide (one = List.replicate k 0) := by
      by_cases c : one = List.replicate k 0
      · rw [decide_eq_true c, decide_eq_false (fun z => pi.mp z c)]; rfl
      · rw [decide_eq_false c, decide_eq_true (pi.mpr c)]; rfl
    rw [this]
    exact neSameD (dt_ok (dtB_bl 0 _) (by decide))
  repeat (first | with_reducible refine Go.bind ?_ | with_reducible refine Go.pure ?_)
  refine Go.of v3 ?_
  have sb : smallB many = true := smallI (by omega) (by omega)
  simp only [qMulL _ sb, qMulW z4 z5, mOk, mPure, qNeI, beq_self_eq_true, Bool.not_true, qOk, qBl, Bool.false_eq_true, if_false, qGt, zt, zk, ne, nb, v4]
  repeat (first | with_reducible refine Go.bind ?_ | with_reducible refine Go.pure ?_)
  refine Go.of rfl ?_
  simp only [Bool.false_eq_true, if_false]
  exact Go.pure ⟨rfl, p4⟩
theorem right_go {n : Nat} {S : Cells} (h : Pail n S) : Go (m__law_right [.cell n]) S fun v S' => v = .bl true := by
  rw [q__law_right]
  unfold n__law_right
  refine Go.forThen (P := Pail n) ?_ fun S' _ => Go.pure rfl
  refine Go.ofB (a := upto 4) (qRange1 (n := 4) (by decide)) ?_
  exact Go.forU _ S (fun x _ S1 p1 => turn_go p1 x) h
theorem law_true (ns : List Int) (hl : ns.length ≤ 63) : ∃ S', Mon.run (m_law [.scr (ns.map .int)]) [] = (.ok (.bl true), S') := by
  refine Go.run (Q := fun v _ => v = .bl true) ?_ fun a _ q => q
  rw [q_law]
  unfold n_law
  repeat (first | with_reducible refine Go.bind ?_ | with_reducible refine Go.pure ?_)
  refine Go.of (a := Val.int ns.length) (by rw [qLenS, List.length_map]) ?_
  repeat (first | with_reducible refine Go.bind ?_ | with_reducible refine Go.pure ?_)
  refine Go.of (a := Val.int (if (6 : Int) < ns.length then 6 else ns.length)) rfl ?_
  repeat (first | with_reducible refine Go.bind ?_ | with_reducible refine Go.pure ?_)
  obtain ⟨m, hm, em⟩ : ∃ m : Nat, m ≤ 6 ∧ fMax [.int 2, .int (if (6 : Int) < ns.length then 6 else (ns.length : Int))] = .ok (.int m) := by
    refine ⟨(if (if (6 : Int) < ns.length then 6 else (ns.length : Int)) > 2 then (if (6 : Int) < ns.length then 6 else (ns.length : Int)) else 2).toNat, by split <;> split <;> omega, ?_⟩
    show Res.ok (Val.int (if _ then _ else _)) = _
    congr 2
    split <;> split <;> omega
  refine Go.of em ?_
  repeat (first | with_reducible refine Go.bind ?_ | with_reducible refine Go.pure ?_)
  refine Go.of (qRange1 (by omega)) ?_
  repeat (first | with_reducible refine Go.bind ?_ | with_reducible refine Go.pure ?_)
  refine Go.nx ((Go.mapOn (R := fun y => y = .bl true) (P := fun _ => True) _ [] (fun x hx S1 _ => ?_) trivial).mono ?_)
  · obtain ⟨i, hi, rfl⟩ := List.mem_map.mp hx
    have hi := List.mem_range.mp hi
    unfold l_law_1
    repeat (first | with_reducible refine Go.bind ?_ | with_reducible refine Go.pure ?_)
    refine jar_go hl (by omega) fun n S2 p2 => ?_
    repeat (first | with_reducible refine Go.bind ?_ | with_reducible refine Go.pure ?_)
    exact (right_go p2).mono fun v S' e => ⟨e, trivial⟩
  rintro ys S1 ⟨⟨hl2, hr⟩, _⟩
  rw [upto_len] at hl2
  have e : ys = (List.replicate m true).map Val.bl := by
    refine List.ext_getElem (by rw [List.length_map, List.length_replicate, hl2]) fun i h1 h2 => ?_
    rw [List.getElem_map, List.getElem_replicate, hr _ (List.getElem_mem h1)]
  rw [e]
  refine Go.of (qLst (by rw [List.length_map, List.length_replicate]; omega)) ?_
  repeat (first | with_reducible refine Go.bind ?_ | with_reducible refine Go.pure ?_)
  refine Go.of (qAll _) ?_
  rw [List.all_replicate]
  split <;> rfl
end K05

section
set_option maxHeartbeats 4000000
/-! derivations, printed by gen.py -/
namespace K05
open PySem PySem.Spec PyProof.Rows L2 Tv
abbrev topS (i : Nat) : Stmt := PySem.Challenge.pw_fifteenforms_k05_whole_values.main.body.getD i (.Pass ⟨0, 0, 0, 0⟩)
abbrev clsS : Stmt → List Stmt
  | .ClassDef _ _ _ b _ _ _ _ _ _ _ => b
  | _ => []
abbrev s__law_square_rows : Stmt := topS 30
abbrev s__law_dip : Stmt := topS 28
abbrev s__law_spun : Stmt := topS 31
abbrev s__law_one_of : Stmt := topS 29
abbrev s__law_det : Stmt := topS 33
abbrev s__law_is_sure : Stmt := topS 34
abbrev s__law_greatest : Stmt := topS 32
abbrev s__law_rows : Stmt := topS 35
abbrev s_is_integer : Stmt := topS 10
abbrev s_is_between : Stmt := topS 11
abbrev s_is_row : Stmt := topS 20
abbrev s_table_until : Stmt := topS 21
abbrev s_determinant_of : Stmt := topS 17
abbrev s_corner_of : Stmt := topS 18
abbrev s_is_sure : Stmt := topS 19
abbrev s_Form___init__ : Stmt := (clsS (topS 25)).getD 0 (.Pass ⟨0, 0, 0, 0⟩)
abbrev s__law_table : Stmt := topS 36
abbrev s__law_made : Stmt := topS 37
abbrev s__law_point : Stmt := topS 40
abbrev s__law_times : Stmt := topS 38
abbrev s_Form_places : Stmt := (clsS (topS 25)).getD 4 (.Pass ⟨0, 0, 0, 0⟩)
abbrev s_check_point : Stmt := topS 26
abbrev s_product_of : Stmt := topS 22
abbrev s_Form_value : Stmt := (clsS (topS 25)).getD 8 (.Pass ⟨0, 0, 0, 0⟩)
abbrev s_Form_product : Stmt := (clsS (topS 25)).getD 7 (.Pass ⟨0, 0, 0, 0⟩)
abbrev s__law_right : Stmt := topS 41
abbrev s__law_jar : Stmt := topS 39
abbrev s_law : Stmt := topS 42
structure Fx (K : PySem.W.Frag) (mg : Str → Option Value) where
  z_len : mg "len" = none
  z_range : mg "range" = none
  z_divmod : mg "divmod" = none
  z_int : mg "int" = none
  z_list : mg "list" = none
  z_all : mg "all" = none
  z_max : mg "max" = none
  z_abs : mg "abs" = none
  z_isinstance : mg "isinstance" = none
  z_bool : mg "bool" = none
  z_tuple : mg "tuple" = none
  z_enumerate : mg "enumerate" = none
  z_sum : mg "sum" = none
  z_zip : mg "zip" = none
  z_repr : mg "repr" = none
  z_min : mg "min" = none
  u_MOST_ENTRY : Value
  c_MOST_ENTRY : mg "MOST_ENTRY" = some u_MOST_ENTRY
  r_MOST_ENTRY : RelV (.int 1000) u_MOST_ENTRY
  u_MOST_PLACES : Value
  c_MOST_PLACES : mg "MOST_PLACES" = some u_MOST_PLACES
  r_MOST_PLACES : RelV (.int 5) u_MOST_PLACES
  a__law_dip : Addr
  d__law_dip : FuncData
  F__law_dip : FunD K "_law_dip" "_law_dip" (defArgs s__law_dip) (defBody s__law_dip) (defScope s__law_dip) [] [] a__law_dip d__law_dip
  g__law_dip : mg "_law_dip" = some (.ref a__law_dip)
  a__law_det : Addr
  d__law_det : FuncData
  F__law_det : FunD K "_law_det" "_law_det" (defArgs s__law_det) (defBody s__law_det) (defScope s__law_det) [] [] a__law_det d__law_det
  g__law_det : mg "_law_det" = some (.ref a__law_det)
  a__law_square_rows : Addr
  d__law_square_rows : FuncData
  F__law_square_rows : FunD K "_law_square_rows" "_law_square_rows" (defArgs s__law_square_rows) (defBody s__law_square_rows) (defScope s__law_square_rows) [] [] a__law_square_rows d__law_square_rows
  g__law_square_rows : mg "_law_square_rows" = some (.ref a__law_square_rows)
  a__law_spun : Addr
  d__law_spun : FuncData
  F__law_spun : FunD K "_law_spun" "_law_spun" (defArgs s__law_spun) (defBody s__law_spun) (defScope s__law_spun) [] [] a__law_spun d__law_spun
  g__law_spun : mg "_law_spun" = some (.ref a__law_spun)
  a__law_one_of : Addr
  d__law_one_of : FuncData
  F__law_one_of : FunD K "_law_one_of" "_law_one_of" (defArgs s__law_one_of) (defBody s__law_one_of) (defScope s__law_one_of) [] [] a__law_one_of d__law_one_of
  g__law_one_of : mg "_law_one_of" = some (.ref a__law_one_of)
  a__law_greatest : Addr
  d__law_greatest : FuncData
  F__law_greatest : FunD K "_law_greatest" "_law_greatest" (defArgs s__law_greatest) (defBody s__law_greatest) (defScope s__law_greatest) [] [] a__law_greatest d__law_greatest
  g__law_greatest : mg "_law_greatest" = some (.ref a__law_greatest)
  a__law_is_sure : Addr
  d__law_is_sure : FuncData
  F__law_is_sure : FunD K "_law_is_sure" "_law_is_sure" (defArgs s__law_is_sure) (defBody s__law_is_sure) (defScope s__law_is_sure) [] [] a__law_is_sure d__law_is_sure
  g__law_is_sure : mg "_law_is_sure" = some (.ref a__law_is_sure)
  a_is_integer : Addr
  d_is_integer : FuncData
  F_is_integer : FunD K "is_integer" "is_integer" (defArgs s_is_integer) (defBody s_is_integer) (defScope s_is_integer) [] [] a_is_integer d_is_integer
  g_is_integer : mg "is_integer" = some (.ref a_is_integer)
  a_is_between : Addr
  d_is_between : FuncData
  F_is_between : FunD K "is_between" "is_between" (defArgs s_is_between) (defBody s_is_between) (defScope s_is_between) [] [] a_is_between d_is_between
  g_is_between : mg "is_between" = some (.ref a_is_between)
  a_is_row : Addr
  d_is_row : FuncData
  F_is_row : FunD K "is_row" "is_row" (defArgs s_is_row) (defBody s_is_row) (defScope s_is_row) [] [] a_is_row d_is_row
  g_is_row : mg "is_row" = some (.ref a_is_row)
  a_determinant_of : Addr
  d_determinant_of : FuncData
  F_determinant_of : FunD K "determinant_of" "determinant_of" (defArgs s_determinant_of) (defBody s_determinant_of) (defScope s_determinant_of) [] [] a_determinant_of d_determinant_of
  g_determinant_of : mg "determinant_of" = some (.ref a_determinant_of)
  a_corner_of : Addr
  d_corner_of : FuncData
  F_corner_of : FunD K "corner_of" "corner_of" (defArgs s_corner_of) (defBody s_corner_of) (defScope s_corner_of) [] [] a_corner_of d_corner_of
  g_corner_of : mg "corner_of" = some (.ref a_corner_of)
  a_table_until : Addr
  d_table_until : FuncData
  F_table_until : FunD K "table_until" "table_until" (defArgs s_table_until) (defBody s_table_until) (defScope s_table_until) [] [] a_table_until d_table_until
  g_table_until : mg "table_until" = some (.ref a_table_until)
  a_is_sure : Addr
  d_is_sure : FuncData
  F_is_sure : FunD K "is_sure" "is_sure" (defArgs s_is_sure) (defBody s_is_sure) (defScope s_is_sure) [] [] a_is_sure d_is_sure
  g_is_sure : mg "is_sure" = some (.ref a_is_sure)
  a_Form___init__ : Addr
  d_Form___init__ : FuncData
  F_Form___init__ : FunD K "__init__" "Form.__init__" (defArgs s_Form___init__) (defBody s_Form___init__) (defScope s_Form___init__) [] [] a_Form___init__ d_Form___init__
  a__law_table : Addr
  d__law_table : FuncData
  F__law_table : FunD K "_law_table" "_law_table" (defArgs s__law_table) (defBody s__law_table) (defScope s__law_table) [] [] a__law_table d__law_table
  g__law_table : mg "_law_table" = some (.ref a__law_table)
  a_Form_places : Addr
  d_Form_places : FuncData
  F_Form_places : FunD K "places" "Form.places" (defArgs s_Form_places) (defBody s_Form_places) (defScope s_Form_places) [] [] a_Form_places d_Form_places
  a_check_point : Addr
  d_check_point : FuncData
  F_check_point : FunD K "check_point" "check_point" (defArgs s_check_point) (defBody s_check_point) (defScope s_check_point) [] [] a_check_point d_check_point
  g_check_point : mg "check_point" = some (.ref a_check_point)
  a_product_of : Addr
  d_product_of : FuncData
  F_product_of : FunD K "product_of" "product_of" (defArgs s_product_of) (defBody s_product_of) (defScope s_product_of) [] [] a_product_of d_product_of
  g_product_of : mg "product_of" = some (.ref a_product_of)
  a__law_rows : Addr
  d__law_rows : FuncData
  F__law_rows : FunD K "_law_rows" "_law_rows" (defArgs s__law_rows) (defBody s__law_rows) (defScope s__law_rows) [] [] a__law_rows d__law_rows
  g__law_rows : mg "_law_rows" = some (.ref a__law_rows)
  a__law_made : Addr
  d__law_made : FuncData
  F__law_made : FunD K "_law_made" "_law_made" (defArgs s__law_made) (defBody s__law_made) (defScope s__law_made) [] [] a__law_made d__law_made
  g__law_made : mg "_law_made" = some (.ref a__law_made)
  a__law_point : Addr
  d__law_point : FuncData
  F__law_point : FunD K "_law_point" "_law_point" (defArgs s__law_point) (defBody s__law_point) (defScope s__law_point) [] [] a__law_point d__law_point
  g__law_point : mg "_law_point" = some (.ref a__law_point)
  a_Form_product : Addr
  d_Form_product : FuncData
  F_Form_product : FunD K "product" "Form.product" (defArgs s_Form_product) (defBody s_Form_product) (defScope s_Form_product) [] [] a_Form_product d_Form_product
  a_Form_value : Addr
  d_Form_value : FuncData
  F_Form_value : FunD K "value" "Form.value" (defArgs s_Form_value) (defBody s_Form_value) (defScope s_Form_value) [] [] a_Form_value d_Form_value
  a__law_times : Addr
  d__law_times : FuncData
  F__law_times : FunD K "_law_times" "_law_times" (defArgs s__law_times) (defBody s__law_times) (defScope s__law_times) [] [] a__law_times d__law_times
  g__law_times : mg "_law_times" = some (.ref a__law_times)
  a__law_right : Addr
  d__law_right : FuncData
  F__law_right : FunD K "_law_right" "_law_right" (defArgs s__law_right) (defBody s__law_right) (defScope s__law_right) [] [] a__law_right d__law_right
  g__law_right : mg "_law_right" = some (.ref a__law_right)
  a__law_jar : Addr
  d__law_jar : FuncData
  F__law_jar : FunD K "_law_jar" "_law_jar" (defArgs s__law_jar) (defBody s__law_jar) (defScope s__law_jar) [] [] a__law_jar d__law_jar
  g__law_jar : mg "_law_jar" = some (.ref a__law_jar)
  a_law : Addr
  d_law : FuncData
  F_law : FunD K "law" "law" (defArgs s_law) (defBody s_law) (defScope s_law) [] [] a_law d_law
  g_law : mg "law" = some (.ref a_law)
  a_Form : Addr
  g_Form : mg "Form" = some (.ref a_Form)
  C_Form : Cls K a_Form
  fl_Form_rows : ∀ Ca, mg "Form" = some (.ref Ca) → Cls K Ca ∧ NoAttr K Ca "rows"
  fl_Form_total : ∀ Ca, mg "Form" = some (.ref Ca) → Cls K Ca ∧ NoAttr K Ca "total"
  p_Form_places : Addr
  P_Form_places : PropOf K a_Form "places" p_Form_places a_Form_places
  M_Form_product : Meth K a_Form "product" a_Form_product
  M_Form_value : Meth K a_Form "value" a_Form_value
  M_Form : Mk K a_Form a_Form___init__
section
variable {P : Program} {w : World} {K : PySem.W.Frag} {mg : Str → Option Value} {base : Heap}
theorem bt_abs : bootBuiltins "abs" = some (.builtin "abs") := by decide +kernel
theorem bt_all : bootBuiltins "all" = some (.builtin "all") := by decide +kernel
theorem bt_divmod : bootBuiltins "divmod" = some (.builtin "divmod") := by decide +kernel
theorem bt_int : bootBuiltins "int" = some (.type "int") := by decide +kernel
theorem bt_len : bootBuiltins "len" = some (.builtin "len") := by decide +kernel
theorem bt_list : bootBuiltins "list" = some (.type "list") := by decide +kernel
theorem bt_max : bootBuiltins "max" = some (.builtin "max") := by decide +kernel
theorem bt_min : bootBuiltins "min" = some (.builtin "min") := by decide +kernel
theorem bt_repr : bootBuiltins "repr" = some (.builtin "repr") := by decide +kernel
theorem bt_sum : bootBuiltins "sum" = some (.builtin "sum") := by decide +kernel
theorem bt_tuple : bootBuiltins "tuple" = some (.type "tuple") := by decide +kernel
theorem repK {mg : Str → Option Value} {κ : List Addr} {G : Hp} {a : Addr} {ns : List Int} (h : ∀ H, SqT K H a (ns.map V.int)) : Rep K mg κ G (.tup (ns.map Val.int)) (.ref a) := by unfold Rep; exact ⟨_, _, rfl, h _, rep_ints ns⟩
theorem b__law_square_rows (T : Fx K mg) : Binds K T.d__law_square_rows ["factors"] [] := T.F__law_square_rows.bindsN fun _ _ _ _ _ _ us hl => match us, hl with | [_], _ => rfl
theorem b__law_dip (T : Fx K mg) : Binds K T.d__law_dip ["jar", "top"] [] := T.F__law_dip.bindsN fun _ _ _ _ _ _ us hl => match us, hl with | [_, _], _ => rfl
theorem b__law_spun (T : Fx K mg) : Binds K T.d__law_spun ["rows", "one", "two", "many"] [] := T.F__law_spun.bindsN fun _ _ _ _ _ _ us hl => match us, hl with | [_, _, _, _], _ => rfl
theorem b__law_one_of (T : Fx K mg) : Binds K T.d__law_one_of ["jar", "some"] [] := T.F__law_one_of.bindsN fun _ _ _ _ _ _ us hl => match us, hl with | [_, _], _ => rfl
theorem b__law_det (T : Fx K mg) : Binds K T.d__law_det ["rows"] [] := T.F__law_det.bindsN fun _ _ _ _ _ _ us hl => match us, hl with | [_], _ => rfl
theorem b__law_is_sure (T : Fx K mg) : Binds K T.d__law_is_sure ["rows"] [] := T.F__law_is_sure.bindsN fun _ _ _ _ _ _ us hl => match us, hl with | [_], _ => rfl
theorem b__law_greatest (T : Fx K mg) : Binds K T.d__law_greatest ["rows"] [] := T.F__law_greatest.bindsN fun _ _ _ _ _ _ us hl => match us, hl with | [_], _ => rfl
theorem b__law_rows (T : Fx K mg) : Binds K T.d__law_rows ["jar", "most", "top"] [] := T.F__law_rows.bindsN fun _ _ _ _ _ _ us hl => match us, hl with | [_, _, _], _ => rfl
theorem b_is_integer (T : Fx K mg) : Binds K T.d_is_integer ["value"] [] := T.F_is_integer.bindsN fun _ _ _ _ _ _ us hl => match us, hl with | [_], _ => rfl
theorem b_is_between (T : Fx K mg) : Binds K T.d_is_between ["value", "low", "high"] [] := T.F_is_between.bindsN fun _ _ _ _ _ _ us hl => match us, hl with | [_, _, _], _ => rfl
theorem b_is_row (T : Fx K mg) : Binds K T.d_is_row ["value", "rows", "places"] [] := T.F_is_row.bindsN fun _ _ _ _ _ _ us hl => match us, hl with | [_, _, _], _ => rfl
theorem b_table_until (T : Fx K mg) : Binds K T.d_table_until ["table"] [] := T.F_table_until.bindsN fun _ _ _ _ _ _ us hl => match us, hl with | [_], _ => rfl
theorem b_determinant_of (T : Fx K mg) : Binds K T.d_determinant_of ["rows"] [] := T.F_determinant_of.bindsN fun _ _ _ _ _ _ us hl => match us, hl with | [_], _ => rfl
theorem b_corner_of (T : Fx K mg) : Binds K T.d_corner_of ["table", "many"] [] := T.F_corner_of.bindsN fun _ _ _ _ _ _ us hl => match us, hl with | [_, _], _ => rfl
theorem b_is_sure (T : Fx K mg) : Binds K T.d_is_sure ["table"] [] := T.F_is_sure.bindsN fun _ _ _ _ _ _ us hl => match us, hl with | [_], _ => rfl
theorem b_Form___init__ (T : Fx K mg) : Binds K T.d_Form___init__ ["self", "table"] [] := T.F_Form___init__.bindsN fun _ _ _ _ _ _ us hl => match us, hl with | [_, _], _ => rfl
theorem b__law_table (T : Fx K mg) : Binds K T.d__law_table ["rows"] [] := T.F__law_table.bindsN fun _ _ _ _ _ _ us hl => match us, hl with | [_], _ => rfl
theorem b__law_made (T : Fx K mg) : Binds K T.d__law_made ["rows"] [] := T.F__law_made.bindsN fun _ _ _ _ _ _ us hl => match us, hl with | [_], _ => rfl
theorem b__law_point (T : Fx K mg) : Binds K T.d__law_point ["jar", "size"] [] := T.F__law_point.bindsN fun _ _ _ _ _ _ us hl => match us, hl with | [_, _], _ => rfl
theorem b__law_times (T : Fx K mg) : Binds K T.d__law_times ["rows", "one", "two"] [] := T.F__law_times.bindsN fun _ _ _ _ _ _ us hl => match us, hl with | [_, _, _], _ => rfl
theorem b_Form_places (T : Fx K mg) : Binds K T.d_Form_places ["self"] [] := T.F_Form_places.bindsN fun _ _ _ _ _ _ us hl => match us, hl with | [_], _ => rfl
theorem b_check_point (T : Fx K mg) : Binds K T.d_check_point ["form", "point"] [] := T.F_check_point.bindsN fun _ _ _ _ _ _ us hl => match us, hl with | [_, _], _ => rfl
theorem b_product_of (T : Fx K mg) : Binds K T.d_product_of ["table", "one", "other"] [] := T.F_product_of.bindsN fun _ _ _ _ _ _ us hl => match us, hl with | [_, _, _], _ => rfl
theorem b_Form_value (T : Fx K mg) : Binds K T.d_Form_value ["self", "point"] [] := T.F_Form_value.bindsN fun _ _ _ _ _ _ us hl => match us, hl with | [_, _], _ => rfl
theorem b_Form_product (T : Fx K mg) : Binds K T.d_Form_product ["self", "one", "two"] [] := T.F_Form_product.bindsN fun _ _ _ _ _ _ us hl => match us, hl with | [_, _, _], _ => rfl
theorem b__law_right (T : Fx K mg) : Binds K T.d__law_right ["jar"] [] := T.F__law_right.bindsN fun _ _ _ _ _ _ us hl => match us, hl with | [_], _ => rfl
theorem b__law_jar (T : Fx K mg) : Binds K T.d__law_jar ["cells", "turn"] [] := T.F__law_jar.bindsN fun _ _ _ _ _ _ us hl => match us, hl with | [_, _], _ => rfl
theorem b_law (T : Fx K mg) : Binds K T.d_law ["cells"] [] := T.F_law.bindsN fun _ _ _ _ _ _ us hl => match us, hl with | [_], _ => rfl
theorem kb_Form_product_1_two_one (T : Fx K mg) : KwB K T.d_Form_product ["self", "one", "two"] ["two", "one"] 1 [0, 2, 1] := kwB_of T.F_Form_product fun _ _ _ _ _ _ us ws h1 h2 => match us, ws, h1, h2 with | [_], [_, _], _, _ => rfl
theorem kb_Form_value_1_point (T : Fx K mg) : KwB K T.d_Form_value ["self", "point"] ["point"] 1 [0, 1] := kwB_of T.F_Form_value fun _ _ _ _ _ _ us ws h1 h2 => match us, ws, h1, h2 with | [_], [_], _, _ => rfl
abbrev N__law_square_rows : List Str := ["factors", "size", "k", "j"]
theorem sc__law_square_rows : FnScope N__law_square_rows ["factors"] (defScope s__law_square_rows) := ⟨rfl, rfl, rfl, by decide +kernel, rfl, by decide +kernel, by decide +kernel⟩
theorem nm__law_square_rows_0 : Nm N__law_square_rows (defScope s__law_square_rows) 0 "factors" := ⟨by decide +kernel⟩
theorem gl__law_square_rows_len : glB (defScope s__law_square_rows) "len" = true := by decide +kernel
theorem nm__law_square_rows_1 : Nm N__law_square_rows (defScope s__law_square_rows) 1 "size" := ⟨by decide +kernel⟩
theorem gl__law_square_rows_range : glB (defScope s__law_square_rows) "range" = true := by decide +kernel
theorem lk__law_square_rows_1 : Lk N__law_square_rows (defScope s__law_square_rows) 1 "size" := ⟨by decide +kernel⟩
theorem g__law_square_rows (T : Fx K mg) : FnG P w K mg base 1 T.a__law_square_rows T.d__law_square_rows ["factors"] m__law_square_rows := okG T.F__law_square_rows sc__law_square_rows (fun xs h => match xs, h with | [], _ => rfl | [_], h => absurd rfl h | _ :: _ :: _, _ => rfl) fun cdv A outer s H E xs c hl => match xs, hl with | [a_factors], _ => (sx_asg c 1 lk__law_square_rows_1 (Nat.le_of_ble_eq_true rfl) (ev_blt c.toCtx f_len gl__law_square_rows_len T.z_len bt_len (ea_cons (ev_var c.toCtx 0 nm__law_square_rows_0) ea_nil)) (fun v_size4 => (sx_ret' (ev_lc c.toCtx (i := 2) (own := [("k", 2)]) (by decide +kernel) ⟨by decide +kernel⟩ (by decide) (Nat.le_of_ble_eq_true rfl) (wi_range1 c.toCtx gl__law_square_rows_range T.z_range (ea_cons (ev_var c.toCtx 1 nm__law_square_rows_1) ea_nil)) (fun v10 s_ H_ C_ cl_ fp_ => (ev_lc (c.toCtx.blk _ s_ H_ C_ cl_ fp_) (i := 3) (own := [("j", 3)]) (by decide +kernel) ⟨by decide +kernel⟩ (by decide) (Nat.le_of_ble_eq_true rfl) (wi_range1 (c.toCtx.blk _ s_ H_ C_ cl_ fp_) (by decide +kernel) T.z_range (ea_cons (ev_var (c.toCtx.blk _ s_ H_ C_ cl_ fp_) 1 ⟨by decide +kernel⟩) ea_nil)) (fun v16 s_ H_ C_ cl_ fp_ => (ev_ifExp (et_cmp (o_eq ((c.toCtx.blk _ s_ H_ C_ cl_ fp_).blk _ s_ H_ C_ cl_ fp_)) (ev_var ((c.toCtx.blk _ s_ H_ C_ cl_ fp_).blk _ s_ H_ C_ cl_ fp_) 2 ⟨by decide +kernel⟩) (ev_var ((c.toCtx.blk _ s_ H_ C_ cl_ fp_).blk _ s_ H_ C_ cl_ fp_) 3 ⟨by decide +kernel⟩)) (ev_ix (fun _ _ => rfl) (ev_var ((c.toCtx.blk _ s_ H_ C_ cl_ fp_).blk _ s_ H_ C_ cl_ fp_) 0 ⟨by decide +kernel⟩) (ev_var ((c.toCtx.blk _ s_ H_ C_ cl_ fp_).blk _ s_ H_ C_ cl_ fp_) 2 ⟨by decide +kernel⟩)) ev_int))).1)).1)))
abbrev N__law_dip : List Str := ["jar", "top", "digit"]
theorem sc__law_dip : FnScope N__law_dip ["jar", "top"] (defScope s__law_dip) := ⟨rfl, rfl, rfl, by decide +kernel, rfl, by decide +kernel, by decide +kernel⟩
theorem nm__law_dip_0 : Nm N__law_dip (defScope s__law_dip) 0 "jar" := ⟨by decide +kernel⟩
theorem nm__law_dip_1 : Nm N__law_dip (defScope s__law_dip) 1 "top" := ⟨by decide +kernel⟩
theorem gl__law_dip_divmod : glB (defScope s__law_dip) "divmod" = true := by decide +kernel
theorem nm__law_dip_2 : Nm N__law_dip (defScope s__law_dip) 2 "digit" := ⟨by decide +kernel⟩
theorem lk__law_dip_2 : Lk N__law_dip (defScope s__law_dip) 2 "digit" := ⟨by decide +kernel⟩
theorem gl__law_dip_int : glB (defScope s__law_dip) "int" = true := by decide +kernel
theorem g__law_dip (T : Fx K mg) : FnG P w K mg base 1 T.a__law_dip T.d__law_dip ["jar", "top"] m__law_dip := okG T.F__law_dip sc__law_dip (fun xs h => match xs, h with | [], _ => rfl | [_], _ => rfl | [_, _], h => absurd rfl h | _ :: _ :: _ :: _, _ => rfl) fun cdv A outer s H E xs c hl => match xs, hl with | [a_jar, a_top], _ => (sx_setC (ev_bin o_add (ev_ixM (fun _ _ => rfl) (ev_var c.toCtx 0 nm__law_dip_0) ev_int) ev_int) (ev_var c.toCtx 0 nm__law_dip_0) ev_int (sx_if (et_cmp o_gt (ev_ixM (fun _ _ => rfl) (ev_var c.toCtx 0 nm__law_dip_0) ev_int) ev_int) (sx_asgCN c 2 lk__law_dip_2 (Nat.le_of_ble_eq_true rfl) (ev_blt c.toCtx f_divmod gl__law_dip_divmod T.z_divmod bt_divmod (ea_cons (ev_ixM (fun _ _ => rfl) (ev_var c.toCtx 0 nm__law_dip_0) ev_int) (ea_cons (ev_var c.toCtx 1 nm__law_dip_1) ea_nil))) (ev_var c.toCtx 0 nm__law_dip_0) ev_int (fun v_digit22 => (sx_ret' (ev_var c.toCtx 2 nm__law_dip_2))) rfl rfl rfl rfl rfl rfl (fun _ => rfl)) (sx_pop (sx_setC (ev_bin o_mod (ev_bty c.toCtx f_int gl__law_dip_int T.z_int bt_int (ea_cons (ev_bin o_add (ev_bin o_mul (ev_ixM (fun _ _ => rfl) (ev_var c.toCtx 0 nm__law_dip_0) ev_int) ev_int) (ev_bin o_mul ev_int (ev_ixM (fun _ _ => rfl) (ev_var c.toCtx 0 nm__law_dip_0) ev_int))) ea_nil)) ev_int) (ev_var c.toCtx 0 nm__law_dip_0) ev_int (sx_ret' (ev_bin o_mod (ev_bty c.toCtx f_int gl__law_dip_int T.z_int bt_int (ea_cons (ev_bin o_fdiv (ev_ixM (fun _ _ => rfl) (ev_var c.toCtx 0 nm__law_dip_0) ev_int) ev_int) ea_nil)) (ev_var c.toCtx 1 nm__law_dip_1))) rfl rfl rfl (fun _ => rfl)))) rfl rfl rfl (fun _ => rfl))
abbrev N__law_spun : List Str := ["rows", "one", "two", "many", "fresh", "k", "row"]
theorem sc__law_spun : FnScope N__law_spun ["rows", "one", "two", "many"] (defScope s__law_spun) := ⟨rfl, rfl, rfl, by decide +kernel, rfl, by decide +kernel, by decide +kernel⟩
theorem nm__law_spun_0 : Nm N__law_spun (defScope s__law_spun) 0 "rows" := ⟨by decide +kernel⟩
theorem nm__law_spun_5 : Nm N__law_spun (defScope s__law_spun) 5 "k" := ⟨by decide +kernel⟩
theorem nm__law_spun_2 : Nm N__law_spun (defScope s__law_spun) 2 "two" := ⟨by decide +kernel⟩
theorem nm__law_spun_4 : Nm N__law_spun (defScope s__law_spun) 4 "fresh" := ⟨by decide +kernel⟩
theorem nm__law_spun_3 : Nm N__law_spun (defScope s__law_spun) 3 "many" := ⟨by decide +kernel⟩
theorem nm__law_spun_1 : Nm N__law_spun (defScope s__law_spun) 1 "one" := ⟨by decide +kernel⟩
theorem lk__law_spun_5 : Lk N__law_spun (defScope s__law_spun) 5 "k" := ⟨by decide +kernel⟩
theorem gl__law_spun_len : glB (defScope s__law_spun) "len" = true := by decide +kernel
theorem gl__law_spun_range : glB (defScope s__law_spun) "range" = true := by decide +kernel
theorem lc__law_spun_4 : Lc N__law_spun (defScope s__law_spun) 4 "fresh" := ⟨by decide +kernel⟩
theorem g__law_spun (T : Fx K mg) : FnG P w K mg base 1 T.a__law_spun T.d__law_spun ["rows", "one", "two", "many"] m__law_spun := okG T.F__law_spun sc__law_spun (fun xs h => match xs, h with | [], _ => rfl | [_], _ => rfl | [_, _], _ => rfl | [_, _, _], _ => rfl | [_, _, _, _], h => absurd rfl h | _ :: _ :: _ :: _ :: _ :: _, _ => rfl) fun cdv A outer s H E xs c hl => match xs, hl with | [a_rows, a_one, a_two, a_many], _ => (sx_own2 c 4 lc__law_spun_4 (Nat.le_of_ble_eq_true rfl) (ev_lcO c.toCtx (i := 6) (own := [("row", 6)]) (by decide +kernel) ⟨by decide +kernel⟩ (by decide) (Nat.le_of_ble_eq_true rfl) (wi_val (ev_var c.toCtx 0 nm__law_spun_0)) (fun v4 s_ H_ C_ cl_ fp_ => (eo_list (c.toCtx.blk _ s_ H_ C_ cl_ fp_) (by decide +kernel) T.z_list (ev_var (c.toCtx.blk _ s_ H_ C_ cl_ fp_) 6 ⟨by decide +kernel⟩)))) (fun oo6 => (sx_then (st_only (st_for c.toCtx (τ := Val) (fun (st_ : List (List Val)) => ([.fz a_rows, .fz a_one, .fz a_two, .fz a_many, .o2 st_, .un, .un] : Tv.Env)) id [] oo6 rfl (wi_range1 c.toCtx gl__law_spun_range T.z_range (ea_cons (ev_blt c.toCtx f_len gl__law_spun_len T.z_len bt_len (ea_cons (ev_var c.toCtx 0 nm__law_spun_0) ea_nil)) ea_nil)) (fun st7 x8 => tb_name c 5 lk__law_spun_5 (Nat.le_of_ble_eq_true rfl) (sx_set2 c.toCtx 4 nm__law_spun_4 rfl (fun _ _ => rfl) (ev_bin o_add (ev_ix2 c.toCtx 4 nm__law_spun_4 rfl (fun _ _ => rfl) (fun _ _ => rfl) (ev_var c.toCtx 5 nm__law_spun_5) (ev_var c.toCtx 2 nm__law_spun_2)) (ev_bin o_mul (ev_var c.toCtx 3 nm__law_spun_3) (ev_ix2 c.toCtx 4 nm__law_spun_4 rfl (fun _ _ => rfl) (fun _ _ => rfl) (ev_var c.toCtx 5 nm__law_spun_5) (ev_var c.toCtx 1 nm__law_spun_1)))) (ev_var c.toCtx 5 nm__law_spun_5) (ev_var c.toCtx 2 nm__law_spun_2) (fun oo22 => (sx_endF [5] rfl (by kernel_rfl))) rfl rfl rfl (fun _ => rfl))))) (fun st30 => (sx_then (st_only (st_for c.toCtx (τ := Val) (fun (st_ : List (List Val)) => ([.fz a_rows, .fz a_one, .fz a_two, .fz a_many, .o2 st_, .un, .un] : Tv.Env)) id [] st30 rfl (wi_range1 c.toCtx gl__law_spun_range T.z_range (ea_cons (ev_blt c.toCtx f_len gl__law_spun_len T.z_len bt_len (ea_cons (ev_var c.toCtx 0 nm__law_spun_0) ea_nil)) ea_nil)) (fun st31 x32 => tb_name c 5 lk__law_spun_5 (Nat.le_of_ble_eq_true rfl) (sx_set2 c.toCtx 4 nm__law_spun_4 rfl (fun _ _ => rfl) (ev_bin o_add (ev_ix2 c.toCtx 4 nm__law_spun_4 rfl (fun _ _ => rfl) (fun _ _ => rfl) (ev_var c.toCtx 2 nm__law_spun_2) (ev_var c.toCtx 5 nm__law_spun_5)) (ev_bin o_mul (ev_var c.toCtx 3 nm__law_spun_3) (ev_ix2 c.toCtx 4 nm__law_spun_4 rfl (fun _ _ => rfl) (fun _ _ => rfl) (ev_var c.toCtx 1 nm__law_spun_1) (ev_var c.toCtx 5 nm__law_spun_5)))) (ev_var c.toCtx 2 nm__law_spun_2) (ev_var c.toCtx 5 nm__law_spun_5) (fun oo46 => (sx_endF [5] rfl (by kernel_rfl))) rfl rfl rfl (fun _ => rfl))))) (fun st54 => (sx_freeze2 4 rfl (sx_ret' (ev_var c.toCtx 4 nm__law_spun_4)))))))) (by decide +kernel) (by decide +kernel) (by decide +kernel))
abbrev N__law_one_of : List Str := ["jar", "some"]
theorem sc__law_one_of : FnScope N__law_one_of ["jar", "some"] (defScope s__law_one_of) := ⟨rfl, rfl, rfl, by decide +kernel, rfl, by decide +kernel, by decide +kernel⟩
theorem nm__law_one_of_1 : Nm N__law_one_of (defScope s__law_one_of) 1 "some" := ⟨by decide +kernel⟩
theorem gl__law_one_of_len : glB (defScope s__law_one_of) "len" = true := by decide +kernel
theorem nm__law_one_of_0 : Nm N__law_one_of (defScope s__law_one_of) 0 "jar" := ⟨by decide +kernel⟩
theorem gl__law_one_of__law_dip : glB (defScope s__law_one_of) "_law_dip" = true := by decide +kernel
theorem g__law_one_of (T : Fx K mg) : FnG P w K mg base 2 T.a__law_one_of T.d__law_one_of ["jar", "some"] m__law_one_of := okG T.F__law_one_of sc__law_one_of (fun xs h => match xs, h with | [], _ => rfl | [_], _ => rfl | [_, _], h => absurd rfl h | _ :: _ :: _ :: _, _ => rfl) fun cdv A outer s H E xs c hl => match xs, hl with | [a_jar, a_some], _ => (sx_ret' (ev_ixM (fun _ _ => rfl) (ev_var c.toCtx 1 nm__law_one_of_1) (ev_call c.toCtx (g__law_dip T) (by decide) (b__law_dip T) gl__law_one_of__law_dip T.g__law_dip T.F__law_dip.kp (ea_cons (ev_var c.toCtx 0 nm__law_one_of_0) (ea_cons (ev_blt c.toCtx f_len gl__law_one_of_len T.z_len bt_len (ea_cons (ev_var c.toCtx 1 nm__law_one_of_1) ea_nil)) ea_nil)))))
abbrev N__law_det : List Str := ["rows", "total", "k", "rest", "row"]
theorem sc__law_det : FnScope N__law_det ["rows"] (defScope s__law_det) := ⟨rfl, rfl, rfl, by decide +kernel, rfl, by decide +kernel, by decide +kernel⟩
theorem nm__law_det_0 : Nm N__law_det (defScope s__law_det) 0 "rows" := ⟨by decide +kernel⟩
theorem nm__law_det_1 : Nm N__law_det (defScope s__law_det) 1 "total" := ⟨by decide +kernel⟩
theorem nm__law_det_2 : Nm N__law_det (defScope s__law_det) 2 "k" := ⟨by decide +kernel⟩
theorem nm__law_det_3 : Nm N__law_det (defScope s__law_det) 3 "rest" := ⟨by decide +kernel⟩
theorem gl__law_det__law_det : glB (defScope s__law_det) "_law_det" = true := by decide +kernel
theorem lk__law_det_1 : Lk N__law_det (defScope s__law_det) 1 "total" := ⟨by decide +kernel⟩
theorem lc__law_det_3 : Lc N__law_det (defScope s__law_det) 3 "rest" := ⟨by decide +kernel⟩
theorem lk__law_det_2 : Lk N__law_det (defScope s__law_det) 2 "k" := ⟨by decide +kernel⟩
theorem gl__law_det_len : glB (defScope s__law_det) "len" = true := by decide +kernel
theorem gl__law_det_range : glB (defScope s__law_det) "range" = true := by decide +kernel
theorem g__law_det (T : Fx K mg) : ∀ n_ : Nat, FnG P w K mg base (0 + n_) T.a__law_det T.d__law_det ["rows"] (m__law_det n_)
  | 0 => FnG.none
  | n_ + 1 => okG (k := 0 + n_) T.F__law_det sc__law_det (fun xs h => match xs, h with | [], _ => rfl | [_], h => absurd rfl h | _ :: _ :: _, _ => rfl) fun cdv A outer s H E xs c hl => match xs, hl with | [a_rows], _ => (sx_if (et_cmp (o_eq c.toCtx) (ev_var c.toCtx 0 nm__law_det_0) (ev_lst ea_nil)) (sx_ret' ev_int) (sx_pop (sx_asg c 1 lk__law_det_1 (Nat.le_of_ble_eq_true rfl) ev_int (fun v_total5 => (sx_then (st_only (st_for c.toCtx (τ := Val) (fun (st_ : Val) => ([.fz a_rows, .fz st_, .un, .un, .un] : Tv.Env)) id [] v_total5 rfl (wi_range1 c.toCtx gl__law_det_range T.z_range (ea_cons (ev_blt c.toCtx f_len gl__law_det_len T.z_len bt_len (ea_cons (ev_var c.toCtx 0 nm__law_det_0) ea_nil)) ea_nil)) (fun st6 x7 => tb_name c 2 lk__law_det_2 (Nat.le_of_ble_eq_true rfl) (sx_asgLc c 3 lc__law_det_3 (Nat.le_of_ble_eq_true rfl) (ev_lc c.toCtx (i := 4) (own := [("row", 4)]) (by decide +kernel) ⟨by decide +kernel⟩ (by decide) (Nat.le_of_ble_eq_true rfl) (wi_val (ev_slice (ev_var c.toCtx 0 nm__law_det_0) (ep_some ev_int) ep_none)) (fun v15 s_ H_ C_ cl_ fp_ => (ev_bin o_add (ev_slice (ev_var (c.toCtx.blk _ s_ H_ C_ cl_ fp_) 4 ⟨by decide +kernel⟩) ep_none (ep_some (ev_var (c.toCtx.blk _ s_ H_ C_ cl_ fp_) 2 ⟨by decide +kernel⟩))) (ev_slice (ev_var (c.toCtx.blk _ s_ H_ C_ cl_ fp_) 4 ⟨by decide +kernel⟩) (ep_some (ev_bin o_add (ev_var (c.toCtx.blk _ s_ H_ C_ cl_ fp_) 2 ⟨by decide +kernel⟩) ev_int)) ep_none)))) (fun v_rest28 => (sx_asg c 1 lk__law_det_1 (Nat.le_of_ble_eq_true rfl) (ev_bin o_add (ev_var c.toCtx 1 nm__law_det_1) (ev_bin o_mul (ev_bin o_mul (ev_bin o_sub ev_int (ev_bin o_mul ev_int (ev_bin o_and (ev_var c.toCtx 2 nm__law_det_2) ev_int))) (ev_ix (fun _ _ => rfl) (ev_ix (fun _ _ => rfl) (ev_var c.toCtx 0 nm__law_det_0) ev_int) (ev_var c.toCtx 2 nm__law_det_2))) (ev_call c.toCtx (g__law_det T n_) (Nat.le_refl _) (b__law_det T) gl__law_det__law_det T.g__law_det T.F__law_det.kp (ea_cons (ev_var c.toCtx 3 nm__law_det_3) ea_nil)))) (fun v_total48 => (sx_endF [2, 3] rfl (by kernel_rfl))))) (by decide +kernel) (by decide +kernel) (by decide +kernel))))) (fun st56 => (sx_ret' (ev_var c.toCtx 1 nm__law_det_1))))))))
abbrev N__law_is_sure : List Str := ["rows", "k", "row"]
theorem sc__law_is_sure : FnScope N__law_is_sure ["rows"] (defScope s__law_is_sure) := ⟨rfl, rfl, rfl, by decide +kernel, rfl, by decide +kernel, by decide +kernel⟩
theorem nm__law_is_sure_0 : Nm N__law_is_sure (defScope s__law_is_sure) 0 "rows" := ⟨by decide +kernel⟩
theorem gl__law_is_sure_len : glB (defScope s__law_is_sure) "len" = true := by decide +kernel
theorem gl__law_is_sure_range : glB (defScope s__law_is_sure) "range" = true := by decide +kernel
theorem gl__law_is_sure_all : glB (defScope s__law_is_sure) "all" = true := by decide +kernel
theorem g__law_is_sure (T : Fx K mg) : FnG P w K mg base 9 T.a__law_is_sure T.d__law_is_sure ["rows"] m__law_is_sure := okG T.F__law_is_sure sc__law_is_sure (fun xs h => match xs, h with | [], _ => rfl | [_], h => absurd rfl h | _ :: _ :: _, _ => rfl) fun cdv A outer s H E xs c hl => match xs, hl with | [a_rows], _ => (sx_ret' (ev_blt c.toCtx (f_all c.toCtx) gl__law_is_sure_all T.z_all bt_all (ea_cons (ev_lc c.toCtx (i := 1) (own := [("k", 1)]) (by decide +kernel) ⟨by decide +kernel⟩ (by decide) (Nat.le_of_ble_eq_true rfl) (wi_range2 c.toCtx gl__law_is_sure_range T.z_range (ea_cons ev_int (ea_cons (ev_bin o_add (ev_blt c.toCtx f_len gl__law_is_sure_len T.z_len bt_len (ea_cons (ev_var c.toCtx 0 nm__law_is_sure_0) ea_nil)) ev_int) ea_nil))) (fun v15 s_ H_ C_ cl_ fp_ => (ev_cmp o_gt rfl (ev_call (c.toCtx.blk _ s_ H_ C_ cl_ fp_) (g__law_det T 8) (by decide) (b__law_det T) (by decide +kernel) T.g__law_det T.F__law_det.kp (ea_cons (ev_lc (c.toCtx.blk _ s_ H_ C_ cl_ fp_) (i := 2) (own := [("row", 2)]) (by decide +kernel) ⟨by decide +kernel⟩ (by decide) (Nat.le_of_ble_eq_true rfl) (wi_val (ev_slice (ev_var (c.toCtx.blk _ s_ H_ C_ cl_ fp_) 0 ⟨by decide +kernel⟩) ep_none (ep_some (ev_var (c.toCtx.blk _ s_ H_ C_ cl_ fp_) 1 ⟨by decide +kernel⟩)))) (fun v26 s_ H_ C_ cl_ fp_ => (ev_slice (ev_var ((c.toCtx.blk _ s_ H_ C_ cl_ fp_).blk _ s_ H_ C_ cl_ fp_) 2 ⟨by decide +kernel⟩) ep_none (ep_some (ev_var ((c.toCtx.blk _ s_ H_ C_ cl_ fp_).blk _ s_ H_ C_ cl_ fp_) 1 ⟨by decide +kernel⟩))))).1 ea_nil)) ev_int))).1 ea_nil)))
abbrev N__law_greatest : List Str := ["rows", "row", "entry"]
theorem sc__law_greatest : FnScope N__law_greatest ["rows"] (defScope s__law_greatest) := ⟨rfl, rfl, rfl, by decide +kernel, rfl, by decide +kernel, by decide +kernel⟩
theorem nm__law_greatest_0 : Nm N__law_greatest (defScope s__law_greatest) 0 "rows" := ⟨by decide +kernel⟩
theorem gl__law_greatest_max : glB (defScope s__law_greatest) "max" = true := by decide +kernel
theorem g__law_greatest (T : Fx K mg) : FnG P w K mg base 1 T.a__law_greatest T.d__law_greatest ["rows"] m__law_greatest := okG T.F__law_greatest sc__law_greatest (fun xs h => match xs, h with | [], _ => rfl | [_], h => absurd rfl h | _ :: _ :: _, _ => rfl) fun cdv A outer s H E xs c hl => match xs, hl with | [a_rows], _ => (sx_ret' (ev_blt c.toCtx (f_max c.toCtx) gl__law_greatest_max T.z_max bt_max (ea_cons (ev_lc c.toCtx (i := 1) (own := [("row", 1)]) (by decide +kernel) ⟨by decide +kernel⟩ (by decide) (Nat.le_of_ble_eq_true rfl) (wi_val (ev_var c.toCtx 0 nm__law_greatest_0)) (fun v6 s_ H_ C_ cl_ fp_ => (ev_blt (c.toCtx.blk _ s_ H_ C_ cl_ fp_) (f_max (c.toCtx.blk _ s_ H_ C_ cl_ fp_)) (by decide +kernel) T.z_max bt_max (ea_cons (ev_lc (c.toCtx.blk _ s_ H_ C_ cl_ fp_) (i := 2) (own := [("entry", 2)]) (by decide +kernel) ⟨by decide +kernel⟩ (by decide) (Nat.le_of_ble_eq_true rfl) (wi_val (ev_var (c.toCtx.blk _ s_ H_ C_ cl_ fp_) 1 ⟨by decide +kernel⟩)) (fun v12 s_ H_ C_ cl_ fp_ => (ev_blt ((c.toCtx.blk _ s_ H_ C_ cl_ fp_).blk _ s_ H_ C_ cl_ fp_) f_abs (by decide +kernel) T.z_abs bt_abs (ea_cons (ev_var ((c.toCtx.blk _ s_ H_ C_ cl_ fp_).blk _ s_ H_ C_ cl_ fp_) 2 ⟨by decide +kernel⟩) ea_nil)))).1 ea_nil)))).1 ea_nil)))
abbrev N__law_rows : List Str := ["jar", "most", "top", "rows", "turn", "one", "two", "fresh", "k", "row"]
theorem sc__law_rows : FnScope N__law_rows ["jar", "most", "top"] (defScope s__law_rows) := ⟨rfl, rfl, rfl, by decide +kernel, rfl, by decide +kernel, by decide +kernel⟩
theorem nm__law_rows_1 : Nm N__law_rows (defScope s__law_rows) 1 "most" := ⟨by decide +kernel⟩
theorem nm__law_rows_0 : Nm N__law_rows (defScope s__law_rows) 0 "jar" := ⟨by decide +kernel⟩
theorem gl__law_rows__law_dip : glB (defScope s__law_rows) "_law_dip" = true := by decide +kernel
theorem gl__law_rows_range : glB (defScope s__law_rows) "range" = true := by decide +kernel
theorem gl__law_rows__law_square_rows : glB (defScope s__law_rows) "_law_square_rows" = true := by decide +kernel
theorem nm__law_rows_3 : Nm N__law_rows (defScope s__law_rows) 3 "rows" := ⟨by decide +kernel⟩
theorem gl__law_rows_len : glB (defScope s__law_rows) "len" = true := by decide +kernel
theorem nm__law_rows_5 : Nm N__law_rows (defScope s__law_rows) 5 "one" := ⟨by decide +kernel⟩
theorem gl__law_rows_int : glB (defScope s__law_rows) "int" = true := by decide +kernel
theorem gl__law_rows__law_one_of : glB (defScope s__law_rows) "_law_one_of" = true := by decide +kernel
theorem nm__law_rows_6 : Nm N__law_rows (defScope s__law_rows) 6 "two" := ⟨by decide +kernel⟩
theorem gl__law_rows__law_spun : glB (defScope s__law_rows) "_law_spun" = true := by decide +kernel
theorem nm__law_rows_7 : Nm N__law_rows (defScope s__law_rows) 7 "fresh" := ⟨by decide +kernel⟩
theorem gl__law_rows__law_greatest : glB (defScope s__law_rows) "_law_greatest" = true := by decide +kernel
theorem nm__law_rows_2 : Nm N__law_rows (defScope s__law_rows) 2 "top" := ⟨by decide +kernel⟩
theorem lk__law_rows_3 : Lk N__law_rows (defScope s__law_rows) 3 "rows" := ⟨by decide +kernel⟩
theorem lk__law_rows_7 : Lk N__law_rows (defScope s__law_rows) 7 "fresh" := ⟨by decide +kernel⟩
theorem lk__law_rows_6 : Lk N__law_rows (defScope s__law_rows) 6 "two" := ⟨by decide +kernel⟩
theorem lk__law_rows_5 : Lk N__law_rows (defScope s__law_rows) 5 "one" := ⟨by decide +kernel⟩
theorem lk__law_rows_4 : Lk N__law_rows (defScope s__law_rows) 4 "turn" := ⟨by decide +kernel⟩
theorem gl__law_rows__law_is_sure : glB (defScope s__law_rows) "_law_is_sure" = true := by decide +kernel
theorem lc__law_rows_7 : Lc N__law_rows (defScope s__law_rows) 7 "fresh" := ⟨by decide +kernel⟩
theorem g__law_rows (T : Fx K mg) : FnG P w K mg base 10 T.a__law_rows T.d__law_rows ["jar", "most", "top"] m__law_rows := okG T.F__law_rows sc__law_rows (fun xs h => match xs, h with | [], _ => rfl | [_], _ => rfl | [_, _], _ => rfl | [_, _, _], h => absurd rfl h | _ :: _ :: _ :: _ :: _, _ => rfl) fun cdv A outer s H E xs c hl => match xs, hl with | [a_jar, a_most, a_top], _ => (sx_asg c 3 lk__law_rows_3 (Nat.le_of_ble_eq_true rfl) (ev_call c.toCtx (g__law_square_rows T).toM (by decide) (b__law_square_rows T) gl__law_rows__law_square_rows T.g__law_square_rows T.F__law_square_rows.kp (ea_cons (ev_lc c.toCtx (i := 8) (own := [("k", 8)]) (by decide +kernel) ⟨by decide +kernel⟩ (by decide) (Nat.le_of_ble_eq_true rfl) (wi_range1 c.toCtx gl__law_rows_range T.z_range (ea_cons (ev_bin o_add ev_int (ev_call c.toCtx (g__law_dip T) (by decide) (b__law_dip T) gl__law_rows__law_dip T.g__law_dip T.F__law_dip.kp (ea_cons (ev_var c.toCtx 0 nm__law_rows_0) (ea_cons (ev_var c.toCtx 1 nm__law_rows_1) ea_nil)))) ea_nil)) (fun v16 s_ H_ C_ cl_ fp_ => (ev_bin o_add ev_int (ev_call (c.toCtx.blk _ s_ H_ C_ cl_ fp_) (g__law_dip T) (by decide) (b__law_dip T) (by decide +kernel) T.g__law_dip T.F__law_dip.kp (ea_cons (ev_var (c.toCtx.blk _ s_ H_ C_ cl_ fp_) 0 ⟨by decide +kernel⟩) (ea_cons (ev_var (c.toCtx.blk _ s_ H_ C_ cl_ fp_) 2 ⟨by decide +kernel⟩) ea_nil)))))).1 ea_nil)) (fun v_rows24 => (sx_then (st_only (st_for c.toCtx (τ := Val) (fun (st_ : Val) => ([.fz a_jar, .fz a_most, .fz a_top, .fz st_, .un, .un, .un, .un, .un, .un] : Tv.Env)) id [] v_rows24 rfl (wi_range1 c.toCtx gl__law_rows_range T.z_range (ea_cons (ev_ifExp (et_cmp o_gt (ev_blt c.toCtx f_len gl__law_rows_len T.z_len bt_len (ea_cons (ev_var c.toCtx 3 nm__law_rows_3) ea_nil)) ev_int) (ev_call c.toCtx (g__law_dip T) (by decide) (b__law_dip T) gl__law_rows__law_dip T.g__law_dip T.F__law_dip.kp (ea_cons (ev_var c.toCtx 0 nm__law_rows_0) (ea_cons ev_int ea_nil))) ev_int) ea_nil)) (fun st25 x26 => tb_name c 4 lk__law_rows_4 (Nat.le_of_ble_eq_true rfl) (sx_asg c 5 lk__law_rows_5 (Nat.le_of_ble_eq_true rfl) (ev_call c.toCtx (g__law_dip T) (by decide) (b__law_dip T) gl__law_rows__law_dip T.g__law_dip T.F__law_dip.kp (ea_cons (ev_var c.toCtx 0 nm__law_rows_0) (ea_cons (ev_blt c.toCtx f_len gl__law_rows_len T.z_len bt_len (ea_cons (ev_var c.toCtx 3 nm__law_rows_3) ea_nil)) ea_nil))) (fun v_one35 => (sx_asg c 6 lk__law_rows_6 (Nat.le_of_ble_eq_true rfl) (ev_bin o_mod (ev_bty c.toCtx f_int gl__law_rows_int T.z_int bt_int (ea_cons (ev_bin o_add (ev_bin o_add (ev_var c.toCtx 5 nm__law_rows_5) ev_int) (ev_call c.toCtx (g__law_dip T) (by decide) (b__law_dip T) gl__law_rows__law_dip T.g__law_dip T.F__law_dip.kp (ea_cons (ev_var c.toCtx 0 nm__law_rows_0) (ea_cons (ev_bin o_sub (ev_blt c.toCtx f_len gl__law_rows_len T.z_len bt_len (ea_cons (ev_var c.toCtx 3 nm__law_rows_3) ea_nil)) ev_int) ea_nil)))) ea_nil)) (ev_blt c.toCtx f_len gl__law_rows_len T.z_len bt_len (ea_cons (ev_var c.toCtx 3 nm__law_rows_3) ea_nil))) (fun v_two58 => (sx_asg c 7 lk__law_rows_7 (Nat.le_of_ble_eq_true rfl) (ev_call c.toCtx (g__law_spun T).toM (by decide) (b__law_spun T) gl__law_rows__law_spun T.g__law_spun T.F__law_spun.kp (ea_cons (ev_var c.toCtx 3 nm__law_rows_3) (ea_cons (ev_var c.toCtx 5 nm__law_rows_5) (ea_cons (ev_var c.toCtx 6 nm__law_rows_6) (ea_cons (ev_call c.toCtx (g__law_one_of T) (by decide) (b__law_one_of T) gl__law_rows__law_one_of T.g__law_one_of T.F__law_one_of.kp (ea_cons (ev_var c.toCtx 0 nm__law_rows_0) (ea_cons (ev_lst (ea_cons ev_int (ea_cons (ev_neg ev_int) (ea_cons ev_int (ea_cons (ev_neg ev_int) (ea_cons ev_int ea_nil)))))) ea_nil))) ea_nil))))) (fun v_fresh86 => (sx_asg c 3 lk__law_rows_3 (Nat.le_of_ble_eq_true rfl) (ev_ifExp (et_bool (ew_or (et_cmp o_lt (ev_call c.toCtx (g__law_greatest T).toM (by decide) (b__law_greatest T) gl__law_rows__law_greatest T.g__law_greatest T.F__law_greatest.kp (ea_cons (ev_var c.toCtx 7 nm__law_rows_7) ea_nil)) ev_int) (ew_or1 (et_cmp o_gt (ev_var c.toCtx 2 nm__law_rows_2) ev_int)))) (ev_var c.toCtx 7 nm__law_rows_7) (ev_var c.toCtx 3 nm__law_rows_3)) (fun v_rows96 => (sx_endF [4, 5, 6, 7] rfl (by kernel_rfl))))))))))))) (fun st112 => (sx_then (st_only (st_for c.toCtx (τ := Val) (fun (st_ : Val) => ([.fz a_jar, .fz a_most, .fz a_top, .fz st_, .un, .un, .un, .un, .un, .un] : Tv.Env)) id [] st112 rfl (wi_range1 c.toCtx gl__law_rows_range T.z_range (ea_cons (ev_ifExp (et_cmp o_gt (ev_blt c.toCtx f_len gl__law_rows_len T.z_len bt_len (ea_cons (ev_var c.toCtx 3 nm__law_rows_3) ea_nil)) ev_int) (ev_call c.toCtx (g__law_dip T) (by decide) (b__law_dip T) gl__law_rows__law_dip T.g__law_dip T.F__law_dip.kp (ea_cons (ev_var c.toCtx 0 nm__law_rows_0) (ea_cons ev_int ea_nil))) ev_int) ea_nil)) (fun st113 x114 => tb_name c 4 lk__law_rows_4 (Nat.le_of_ble_eq_true rfl) (sx_asg c 5 lk__law_rows_5 (Nat.le_of_ble_eq_true rfl) (ev_call c.toCtx (g__law_dip T) (by decide) (b__law_dip T) gl__law_rows__law_dip T.g__law_dip T.F__law_dip.kp (ea_cons (ev_var c.toCtx 0 nm__law_rows_0) (ea_cons (ev_blt c.toCtx f_len gl__law_rows_len T.z_len bt_len (ea_cons (ev_var c.toCtx 3 nm__law_rows_3) ea_nil)) ea_nil))) (fun v_one123 => (sx_asg c 6 lk__law_rows_6 (Nat.le_of_ble_eq_true rfl) (ev_bin o_mod (ev_bty c.toCtx f_int gl__law_rows_int T.z_int bt_int (ea_cons (ev_bin o_add (ev_bin o_add (ev_var c.toCtx 5 nm__law_rows_5) ev_int) (ev_call c.toCtx (g__law_dip T) (by decide) (b__law_dip T) gl__law_rows__law_dip T.g__law_dip T.F__law_dip.kp (ea_cons (ev_var c.toCtx 0 nm__law_rows_0) (ea_cons (ev_bin o_sub (ev_blt c.toCtx f_len gl__law_rows_len T.z_len bt_len (ea_cons (ev_var c.toCtx 3 nm__law_rows_3) ea_nil)) ev_int) ea_nil)))) ea_nil)) (ev_blt c.toCtx f_len gl__law_rows_len T.z_len bt_len (ea_cons (ev_var c.toCtx 3 nm__law_rows_3) ea_nil))) (fun v_two146 => (sx_own2 c 7 lc__law_rows_7 (Nat.le_of_ble_eq_true rfl) (ev_lcO c.toCtx (i := 9) (own := [("row", 9)]) (by decide +kernel) ⟨by decide +kernel⟩ (by decide) (Nat.le_of_ble_eq_true rfl) (wi_val (ev_var c.toCtx 3 nm__law_rows_3)) (fun v150 s_ H_ C_ cl_ fp_ => (eo_list (c.toCtx.blk _ s_ H_ C_ cl_ fp_) (by decide +kernel) T.z_list (ev_var (c.toCtx.blk _ s_ H_ C_ cl_ fp_) 9 ⟨by decide +kernel⟩)))) (fun oo152 => (sx_set2 c.toCtx 7 nm__law_rows_7 rfl (fun _ _ => rfl) (ev_bin o_add (ev_ix2 c.toCtx 7 nm__law_rows_7 rfl (fun _ _ => rfl) (fun _ _ => rfl) (ev_var c.toCtx 5 nm__law_rows_5) (ev_var c.toCtx 6 nm__law_rows_6)) ev_int) (ev_var c.toCtx 5 nm__law_rows_5) (ev_var c.toCtx 6 nm__law_rows_6) (fun oo161 => (sx_set2 c.toCtx 7 nm__law_rows_7 rfl (fun _ _ => rfl) (ev_ix2 c.toCtx 7 nm__law_rows_7 rfl (fun _ _ => rfl) (fun _ _ => rfl) (ev_var c.toCtx 5 nm__law_rows_5) (ev_var c.toCtx 6 nm__law_rows_6)) (ev_var c.toCtx 6 nm__law_rows_6) (ev_var c.toCtx 5 nm__law_rows_5) (fun oo168 => (sx_freeze2 7 rfl (sx_asg c 3 lk__law_rows_3 (Nat.le_of_ble_eq_true rfl) (ev_ifExp (et_val (ev_call c.toCtx (g__law_is_sure T).toM (by decide) (b__law_is_sure T) gl__law_rows__law_is_sure T.g__law_is_sure T.F__law_is_sure.kp (ea_cons (ev_var c.toCtx 7 nm__law_rows_7) ea_nil))) (ev_var c.toCtx 7 nm__law_rows_7) (ev_var c.toCtx 3 nm__law_rows_3)) (fun v_rows174 => (sx_endF [4, 5, 6, 7] rfl (by kernel_rfl)))))) rfl rfl rfl (fun _ => rfl))) rfl rfl rfl (fun _ => rfl))) (by decide +kernel) (by decide +kernel) (by decide +kernel))))))))) (fun st190 => (sx_ret' (ev_var c.toCtx 3 nm__law_rows_3))))))))
abbrev N_is_integer : List Str := ["value"]
theorem sc_is_integer : FnScope N_is_integer ["value"] (defScope s_is_integer) := ⟨rfl, rfl, rfl, by decide +kernel, rfl, by decide +kernel, by decide +kernel⟩
theorem nm_is_integer_0 : Nm N_is_integer (defScope s_is_integer) 0 "value" := ⟨by decide +kernel⟩
theorem gl_is_integer_isinstance : glB (defScope s_is_integer) "isinstance" = true := by decide +kernel
theorem gl_is_integer_int : glB (defScope s_is_integer) "int" = true := by decide +kernel
theorem gl_is_integer_bool : glB (defScope s_is_integer) "bool" = true := by decide +kernel
theorem g_is_integer (T : Fx K mg) : FnG P w K mg base 1 T.a_is_integer T.d_is_integer ["value"] m_is_integer := okG T.F_is_integer sc_is_integer (fun xs h => match xs, h with | [], _ => rfl | [_], h => absurd rfl h | _ :: _ :: _, _ => rfl) fun cdv A outer s H E xs c hl => match xs, hl with | [a_value], _ => (sx_ret' (ev_and (ev_isB c.toCtx gl_is_integer_isinstance T.z_isinstance gl_is_integer_int T.z_int PyProof.Rows.boot_int (by decide) (ev_var c.toCtx 0 nm_is_integer_0)) (ev_one (ev_not (ev_isB c.toCtx gl_is_integer_isinstance T.z_isinstance gl_is_integer_bool T.z_bool PyProof.Rows.boot_bool (by decide) (ev_var c.toCtx 0 nm_is_integer_0))))))
abbrev N_is_between : List Str := ["value", "low", "high"]
theorem sc_is_between : FnScope N_is_between ["value", "low", "high"] (defScope s_is_between) := ⟨rfl, rfl, rfl, by decide +kernel, rfl, by decide +kernel, by decide +kernel⟩
theorem nm_is_between_0 : Nm N_is_between (defScope s_is_between) 0 "value" := ⟨by decide +kernel⟩
theorem gl_is_between_is_integer : glB (defScope s_is_between) "is_integer" = true := by decide +kernel
theorem nm_is_between_1 : Nm N_is_between (defScope s_is_between) 1 "low" := ⟨by decide +kernel⟩
theorem nm_is_between_2 : Nm N_is_between (defScope s_is_between) 2 "high" := ⟨by decide +kernel⟩
theorem g_is_between (T : Fx K mg) : FnG P w K mg base 2 T.a_is_between T.d_is_between ["value", "low", "high"] m_is_between := okG T.F_is_between sc_is_between (fun xs h => match xs, h with | [], _ => rfl | [_], _ => rfl | [_, _], _ => rfl | [_, _, _], h => absurd rfl h | _ :: _ :: _ :: _ :: _, _ => rfl) fun cdv A outer s H E xs c hl => match xs, hl with | [a_value, a_low, a_high], _ => (sx_ret' (ev_and (ev_call c.toCtx (g_is_integer T) (by decide) (b_is_integer T) gl_is_between_is_integer T.g_is_integer T.F_is_integer.kp (ea_cons (ev_var c.toCtx 0 nm_is_between_0) ea_nil)) (ev_one (ev_chain o_le o_le (ev_var c.toCtx 1 nm_is_between_1) (ev_var c.toCtx 0 nm_is_between_0) (ev_var c.toCtx 2 nm_is_between_2)))))
abbrev N_is_row : List Str := ["value", "rows", "places", "entry", "at", "row"]
theorem sc_is_row : FnScope N_is_row ["value", "rows", "places"] (defScope s_is_row) := ⟨rfl, rfl, rfl, by decide +kernel, rfl, by decide +kernel, by decide +kernel⟩
theorem nm_is_row_0 : Nm N_is_row (defScope s_is_row) 0 "value" := ⟨by decide +kernel⟩
theorem gl_is_row_isinstance : glB (defScope s_is_row) "isinstance" = true := by decide +kernel
theorem gl_is_row_tuple : glB (defScope s_is_row) "tuple" = true := by decide +kernel
theorem gl_is_row_len : glB (defScope s_is_row) "len" = true := by decide +kernel
theorem nm_is_row_2 : Nm N_is_row (defScope s_is_row) 2 "places" := ⟨by decide +kernel⟩
theorem gl_is_row_all : glB (defScope s_is_row) "all" = true := by decide +kernel
theorem nm_is_row_1 : Nm N_is_row (defScope s_is_row) 1 "rows" := ⟨by decide +kernel⟩
theorem gl_is_row_enumerate : glB (defScope s_is_row) "enumerate" = true := by decide +kernel
theorem g_is_row (T : Fx K mg) : FnG P w K mg base 3 T.a_is_row T.d_is_row ["value", "rows", "places"] m_is_row := okG T.F_is_row sc_is_row (fun xs h => match xs, h with | [], _ => rfl | [_], _ => rfl | [_, _], _ => rfl | [_, _, _], h => absurd rfl h | _ :: _ :: _ :: _ :: _, _ => rfl) fun cdv A outer s H E xs c hl => match xs, hl with | [a_value, a_rows, a_places], _ => (sx_if (et_bool (ew_or (et_not (et_val (ev_isB c.toCtx gl_is_row_isinstance T.z_isinstance gl_is_row_tuple T.z_tuple PyProof.Rows.boot_tuple (by decide) (ev_var c.toCtx 0 nm_is_row_0)))) (ew_or1 (et_cmp (o_ne c.toCtx) (ev_blt c.toCtx f_len gl_is_row_len T.z_len bt_len (ea_cons (ev_var c.toCtx 0 nm_is_row_0) ea_nil)) (ev_var c.toCtx 2 nm_is_row_2))))) (sx_ret' ev_bl) (sx_pop (sx_if (et_not (et_val (ev_blt c.toCtx (f_all c.toCtx) gl_is_row_all T.z_all bt_all (ea_cons (ev_lc c.toCtx (i := 3) (own := [("entry", 3)]) (by decide +kernel) ⟨by decide +kernel⟩ (by decide) (Nat.le_of_ble_eq_true rfl) (wi_val (ev_var c.toCtx 0 nm_is_row_0)) (fun v16 s_ H_ C_ cl_ fp_ => (ev_call (c.toCtx.blk _ s_ H_ C_ cl_ fp_) (g_is_between T) (by decide) (b_is_between T) (by decide +kernel) T.g_is_between T.F_is_between.kp (ea_cons (ev_var (c.toCtx.blk _ s_ H_ C_ cl_ fp_) 3 ⟨by decide +kernel⟩) (ea_cons (ev_neg (ev_glob (c.toCtx.blk _ s_ H_ C_ cl_ fp_) (by decide +kernel) T.c_MOST_ENTRY T.r_MOST_ENTRY fun _ _ => repI _)) (ea_cons (ev_glob (c.toCtx.blk _ s_ H_ C_ cl_ fp_) (by decide +kernel) T.c_MOST_ENTRY T.r_MOST_ENTRY fun _ _ => repI _) ea_nil)))))).1 ea_nil)))) (sx_ret' ev_bl) (sx_pop (sx_ret' (ev_blt c.toCtx (f_all c.toCtx) gl_is_row_all T.z_all bt_all (ea_cons (ev_lc2 c.toCtx (i := 4) (j := 5) (own := [("at", 4), ("row", 5)]) (by decide +kernel) ⟨by decide +kernel⟩ ⟨by decide +kernel⟩ (by decide) (by decide) (Nat.le_of_ble_eq_true rfl) (Nat.le_of_ble_eq_true rfl) (wi_enum c.toCtx gl_is_row_enumerate T.z_enumerate (ea_cons (ev_var c.toCtx 1 nm_is_row_1) ea_nil)) (fun v36 v37 s_ H_ C_ cl_ fp_ => (ev_cmp (o_eq (c.toCtx.blk _ s_ H_ C_ cl_ fp_)) rfl (ev_ix (fun _ _ => rfl) (ev_var (c.toCtx.blk _ s_ H_ C_ cl_ fp_) 5 ⟨by decide +kernel⟩) (ev_blt (c.toCtx.blk _ s_ H_ C_ cl_ fp_) f_len (by decide +kernel) T.z_len bt_len (ea_cons (ev_var (c.toCtx.blk _ s_ H_ C_ cl_ fp_) 1 ⟨by decide +kernel⟩) ea_nil))) (ev_ix (fun _ _ => rfl) (ev_var (c.toCtx.blk _ s_ H_ C_ cl_ fp_) 0 ⟨by decide +kernel⟩) (ev_var (c.toCtx.blk _ s_ H_ C_ cl_ fp_) 4 ⟨by decide +kernel⟩))))).1 ea_nil)))))))
abbrev N_table_until : List Str := ["table", "index", "value"]
theorem sc_table_until : FnScope N_table_until ["table"] (defScope s_table_until) := ⟨rfl, rfl, rfl, by decide +kernel, rfl, by decide +kernel, by decide +kernel⟩
theorem nm_table_until_0 : Nm N_table_until (defScope s_table_until) 0 "table" := ⟨by decide +kernel⟩
theorem gl_table_until_len : glB (defScope s_table_until) "len" = true := by decide +kernel
theorem nm_table_until_1 : Nm N_table_until (defScope s_table_until) 1 "index" := ⟨by decide +kernel⟩
theorem nm_table_until_2 : Nm N_table_until (defScope s_table_until) 2 "value" := ⟨by decide +kernel⟩
theorem gl_table_until_is_row : glB (defScope s_table_until) "is_row" = true := by decide +kernel
theorem lk_table_until_1 : Lk N_table_until (defScope s_table_until) 1 "index" := ⟨by decide +kernel⟩
theorem lk_table_until_2 : Lk N_table_until (defScope s_table_until) 2 "value" := ⟨by decide +kernel⟩
theorem gl_table_until_enumerate : glB (defScope s_table_until) "enumerate" = true := by decide +kernel
theorem g_table_until (T : Fx K mg) : FnG P w K mg base 4 T.a_table_until T.d_table_until ["table"] m_table_until := okG T.F_table_until sc_table_until (fun xs h => match xs, h with | [], _ => rfl | [_], h => absurd rfl h | _ :: _ :: _, _ => rfl) fun cdv A outer s H E xs c hl => match xs, hl with | [a_table], _ => (sx_thenR (st_nxRt (st_for c.toCtx (τ := Val) (fun (st_ : Unit) => ([.fz a_table, .un, .un] : Tv.Env)) id [] () rfl (wi_enum c.toCtx gl_table_until_enumerate T.z_enumerate (ea_cons (ev_var c.toCtx 0 nm_table_until_0) ea_nil)) (fun st1 x2 => tb_tup2 c 1 2 lk_table_until_1 lk_table_until_2 (Nat.le_of_ble_eq_true rfl) (Nat.le_of_ble_eq_true rfl) (fun v_index3 v_value4 => (sx_if (et_not (et_val (ev_call c.toCtx (g_is_row T) (by decide) (b_is_row T) gl_table_until_is_row T.g_is_row T.F_is_row.kp (ea_cons (ev_var c.toCtx 2 nm_table_until_2) (ea_cons (ev_slice (ev_var c.toCtx 0 nm_table_until_0) ep_none (ep_some (ev_var c.toCtx 1 nm_table_until_1))) (ea_cons (ev_blt c.toCtx f_len gl_table_until_len T.z_len bt_len (ea_cons (ev_var c.toCtx 0 nm_table_until_0) ea_nil)) ea_nil)))))) (sx_ret (f := fun v => Fl.rt v) (ev_var c.toCtx 1 nm_table_until_1) (fun _ => .inl rfl)) (sx_pop (sx_endF [1, 2] rfl (by kernel_rfl)))))))) (fun st27 => (sx_ret' ev_non)) (fun _ => .inr rfl))
abbrev N_determinant_of : List Str := ["rows", "total", "place", "entry", "rest", "row"]
theorem sc_determinant_of : FnScope N_determinant_of ["rows"] (defScope s_determinant_of) := ⟨rfl, rfl, rfl, by decide +kernel, rfl, by decide +kernel, by decide +kernel⟩
theorem nm_determinant_of_0 : Nm N_determinant_of (defScope s_determinant_of) 0 "rows" := ⟨by decide +kernel⟩
theorem nm_determinant_of_3 : Nm N_determinant_of (defScope s_determinant_of) 3 "entry" := ⟨by decide +kernel⟩
theorem gl_determinant_of_tuple : glB (defScope s_determinant_of) "tuple" = true := by decide +kernel
theorem nm_determinant_of_2 : Nm N_determinant_of (defScope s_determinant_of) 2 "place" := ⟨by decide +kernel⟩
theorem nm_determinant_of_4 : Nm N_determinant_of (defScope s_determinant_of) 4 "rest" := ⟨by decide +kernel⟩
theorem gl_determinant_of_determinant_of : glB (defScope s_determinant_of) "determinant_of" = true := by decide +kernel
theorem lk_determinant_of_1 : Lk N_determinant_of (defScope s_determinant_of) 1 "total" := ⟨by decide +kernel⟩
theorem lk_determinant_of_4 : Lk N_determinant_of (defScope s_determinant_of) 4 "rest" := ⟨by decide +kernel⟩
theorem lk_determinant_of_2 : Lk N_determinant_of (defScope s_determinant_of) 2 "place" := ⟨by decide +kernel⟩
theorem lk_determinant_of_3 : Lk N_determinant_of (defScope s_determinant_of) 3 "entry" := ⟨by decide +kernel⟩
theorem gl_determinant_of_enumerate : glB (defScope s_determinant_of) "enumerate" = true := by decide +kernel
theorem nm_determinant_of_1 : Nm N_determinant_of (defScope s_determinant_of) 1 "total" := ⟨by decide +kernel⟩
theorem g_determinant_of (T : Fx K mg) : ∀ n_ : Nat, FnG P w K mg base (0 + n_) T.a_determinant_of T.d_determinant_of ["rows"] (m_determinant_of n_)
  | 0 => FnG.none
  | n_ + 1 => okG (k := 0 + n_) T.F_determinant_of sc_determinant_of (fun xs h => match xs, h with | [], _ => rfl | [_], h => absurd rfl h | _ :: _ :: _, _ => rfl) fun cdv A outer s H E xs c hl => match xs, hl with | [a_rows], _ => (sx_if (et_cmp (o_eq c.toCtx) (ev_var c.toCtx 0 nm_determinant_of_0) (ev_tup ea_nil)) (sx_ret' ev_int) (sx_pop (sx_asg c 1 lk_determinant_of_1 (Nat.le_of_ble_eq_true rfl) ev_int (fun v_total5 => (sx_then (st_only (st_for c.toCtx (τ := Val) (fun (st_ : Val) => ([.fz a_rows, .fz st_, .un, .un, .un, .un] : Tv.Env)) id [] v_total5 rfl (wi_enum c.toCtx gl_determinant_of_enumerate T.z_enumerate (ea_cons (ev_ix (fun _ _ => rfl) (ev_var c.toCtx 0 nm_determinant_of_0) ev_int) ea_nil)) (fun st6 x7 => tb_tup2 c 2 3 lk_determinant_of_2 lk_determinant_of_3 (Nat.le_of_ble_eq_true rfl) (Nat.le_of_ble_eq_true rfl) (fun v_place8 v_entry9 => (sx_if (et_cmp (o_ne c.toCtx) (ev_var c.toCtx 3 nm_determinant_of_3) ev_int) (sx_asg c 4 lk_determinant_of_4 (Nat.le_of_ble_eq_true rfl) (ev_bty c.toCtx f_tuple gl_determinant_of_tuple T.z_tuple bt_tuple (ea_cons (ev_lc c.toCtx (i := 5) (own := [("row", 5)]) (by decide +kernel) ⟨by decide +kernel⟩ (by decide) (Nat.le_of_ble_eq_true rfl) (wi_val (ev_slice (ev_var c.toCtx 0 nm_determinant_of_0) (ep_some ev_int) ep_none)) (fun v22 s_ H_ C_ cl_ fp_ => (ev_tup (ea_star (ev_slice (ev_var (c.toCtx.blk _ s_ H_ C_ cl_ fp_) 5 ⟨by decide +kernel⟩) ep_none (ep_some (ev_var (c.toCtx.blk _ s_ H_ C_ cl_ fp_) 2 ⟨by decide +kernel⟩))) (ea_star (ev_slice (ev_var (c.toCtx.blk _ s_ H_ C_ cl_ fp_) 5 ⟨by decide +kernel⟩) (ep_some (ev_bin o_add (ev_var (c.toCtx.blk _ s_ H_ C_ cl_ fp_) 2 ⟨by decide +kernel⟩) ev_int)) ep_none) ea_nil))))).1 ea_nil)) (fun v_rest41 => (sx_augI c 1 ip_add lk_determinant_of_1 rfl (Nat.le_of_ble_eq_true rfl) (ev_bin o_mul (ev_ifExp (et_val (ev_bin o_mod (ev_var c.toCtx 2 nm_determinant_of_2) ev_int)) (ev_neg (ev_var c.toCtx 3 nm_determinant_of_3)) (ev_var c.toCtx 3 nm_determinant_of_3)) (ev_call c.toCtx (g_determinant_of T n_) (Nat.le_refl _) (b_determinant_of T) gl_determinant_of_determinant_of T.g_determinant_of T.F_determinant_of.kp (ea_cons (ev_var c.toCtx 4 nm_determinant_of_4) ea_nil))) (fun v_total53 => (sx_pop (sx_endF [2, 3, 4] rfl (by kernel_rfl))))))) (sx_pop (sx_endF [2, 3] rfl (by kernel_rfl)))))))) (fun st60 => (sx_ret' (ev_var c.toCtx 1 nm_determinant_of_1))))))))
abbrev N_corner_of : List Str := ["table", "many", "row"]
theorem sc_corner_of : FnScope N_corner_of ["table", "many"] (defScope s_corner_of) := ⟨rfl, rfl, rfl, by decide +kernel, rfl, by decide +kernel, by decide +kernel⟩
theorem nm_corner_of_0 : Nm N_corner_of (defScope s_corner_of) 0 "table" := ⟨by decide +kernel⟩
theorem nm_corner_of_1 : Nm N_corner_of (defScope s_corner_of) 1 "many" := ⟨by decide +kernel⟩
theorem gl_corner_of_tuple : glB (defScope s_corner_of) "tuple" = true := by decide +kernel
theorem g_corner_of (T : Fx K mg) : FnG P w K mg base 1 T.a_corner_of T.d_corner_of ["table", "many"] m_corner_of := okG T.F_corner_of sc_corner_of (fun xs h => match xs, h with | [], _ => rfl | [_], _ => rfl | [_, _], h => absurd rfl h | _ :: _ :: _ :: _, _ => rfl) fun cdv A outer s H E xs c hl => match xs, hl with | [a_table, a_many], _ => (sx_ret' (ev_bty c.toCtx f_tuple gl_corner_of_tuple T.z_tuple bt_tuple (ea_cons (ev_lc c.toCtx (i := 2) (own := [("row", 2)]) (by decide +kernel) ⟨by decide +kernel⟩ (by decide) (Nat.le_of_ble_eq_true rfl) (wi_val (ev_slice (ev_var c.toCtx 0 nm_corner_of_0) ep_none (ep_some (ev_var c.toCtx 1 nm_corner_of_1)))) (fun v10 s_ H_ C_ cl_ fp_ => (ev_slice (ev_var (c.toCtx.blk _ s_ H_ C_ cl_ fp_) 2 ⟨by decide +kernel⟩) ep_none (ep_some (ev_var (c.toCtx.blk _ s_ H_ C_ cl_ fp_) 1 ⟨by decide +kernel⟩))))).1 ea_nil)))
abbrev N_is_sure : List Str := ["table", "many"]
theorem sc_is_sure : FnScope N_is_sure ["table"] (defScope s_is_sure) := ⟨rfl, rfl, rfl, by decide +kernel, rfl, by decide +kernel, by decide +kernel⟩
theorem nm_is_sure_0 : Nm N_is_sure (defScope s_is_sure) 0 "table" := ⟨by decide +kernel⟩
theorem gl_is_sure_len : glB (defScope s_is_sure) "len" = true := by decide +kernel
theorem gl_is_sure_range : glB (defScope s_is_sure) "range" = true := by decide +kernel
theorem gl_is_sure_all : glB (defScope s_is_sure) "all" = true := by decide +kernel
theorem g_is_sure (T : Fx K mg) : FnG P w K mg base 9 T.a_is_sure T.d_is_sure ["table"] m_is_sure := okG T.F_is_sure sc_is_sure (fun xs h => match xs, h with | [], _ => rfl | [_], h => absurd rfl h | _ :: _ :: _, _ => rfl) fun cdv A outer s H E xs c hl => match xs, hl with | [a_table], _ => (sx_ret' (ev_blt c.toCtx (f_all c.toCtx) gl_is_sure_all T.z_all bt_all (ea_cons (ev_lc c.toCtx (i := 1) (own := [("many", 1)]) (by decide +kernel) ⟨by decide +kernel⟩ (by decide) (Nat.le_of_ble_eq_true rfl) (wi_range2 c.toCtx gl_is_sure_range T.z_range (ea_cons ev_int (ea_cons (ev_bin o_add (ev_blt c.toCtx f_len gl_is_sure_len T.z_len bt_len (ea_cons (ev_var c.toCtx 0 nm_is_sure_0) ea_nil)) ev_int) ea_nil))) (fun v15 s_ H_ C_ cl_ fp_ => (ev_cmp o_gt rfl (ev_call (c.toCtx.blk _ s_ H_ C_ cl_ fp_) (g_determinant_of T 8) (by decide) (b_determinant_of T) (by decide +kernel) T.g_determinant_of T.F_determinant_of.kp (ea_cons (ev_call (c.toCtx.blk _ s_ H_ C_ cl_ fp_) (g_corner_of T) (by decide) (b_corner_of T) (by decide +kernel) T.g_corner_of T.F_corner_of.kp (ea_cons (ev_var (c.toCtx.blk _ s_ H_ C_ cl_ fp_) 0 ⟨by decide +kernel⟩) (ea_cons (ev_var (c.toCtx.blk _ s_ H_ C_ cl_ fp_) 1 ⟨by decide +kernel⟩) ea_nil))) ea_nil)) ev_int))).1 ea_nil)))
abbrev N_Form___init__ : List Str := ["self", "table", "index"]
theorem sc_Form___init__ : FnScope N_Form___init__ ["self", "table"] (defScope s_Form___init__) := ⟨rfl, rfl, rfl, by decide +kernel, rfl, by decide +kernel, by decide +kernel⟩
theorem nm_Form___init___1 : Nm N_Form___init__ (defScope s_Form___init__) 1 "table" := ⟨by decide +kernel⟩
theorem gl_Form___init___isinstance : glB (defScope s_Form___init__) "isinstance" = true := by decide +kernel
theorem gl_Form___init___tuple : glB (defScope s_Form___init__) "tuple" = true := by decide +kernel
theorem gl_Form___init___len : glB (defScope s_Form___init__) "len" = true := by decide +kernel
theorem gl_Form___init___MOST_PLACES : glB (defScope s_Form___init__) "MOST_PLACES" = true := by decide +kernel
theorem gl_Form___init___table_until : glB (defScope s_Form___init__) "table_until" = true := by decide +kernel
theorem nm_Form___init___2 : Nm N_Form___init__ (defScope s_Form___init__) 2 "index" := ⟨by decide +kernel⟩
theorem gl_Form___init___is_sure : glB (defScope s_Form___init__) "is_sure" = true := by decide +kernel
theorem gl_Form___init___determinant_of : glB (defScope s_Form___init__) "determinant_of" = true := by decide +kernel
theorem nm_Form___init___0 : Nm N_Form___init__ (defScope s_Form___init__) 0 "self" := ⟨by decide +kernel⟩
theorem lk_Form___init___2 : Lk N_Form___init__ (defScope s_Form___init__) 2 "index" := ⟨by decide +kernel⟩
theorem g_Form___init__ (T : Fx K mg) : InG P w K mg base 10 "Form" T.a_Form T.a_Form___init__ T.d_Form___init__ "self" ["table"] m_Form___init__ := okI T.F_Form___init__ sc_Form___init__ (fun xs h => match xs, h with | [], _ => rfl | [_], h => absurd rfl h | _ :: _ :: _, _ => rfl) fun cdv A outer s H E a_ xs c hl => match xs, hl with | [a_table], _ => (sx_if (et_bool (ew_or (et_not (et_val (ev_isB c.toCtx gl_Form___init___isinstance T.z_isinstance gl_Form___init___tuple T.z_tuple PyProof.Rows.boot_tuple (by decide) (ev_var c.toCtx 1 nm_Form___init___1)))) (ew_or1 (et_not (et_chain o_le o_le ev_int (ev_blt c.toCtx f_len gl_Form___init___len T.z_len bt_len (ea_cons (ev_var c.toCtx 1 nm_Form___init___1) ea_nil)) (ev_glob c.toCtx gl_Form___init___MOST_PLACES T.c_MOST_PLACES T.r_MOST_PLACES fun _ _ => repI _)))))) sx_stuck (sx_pop (sx_asg c 2 lk_Form___init___2 (Nat.le_of_ble_eq_true rfl) (ev_call c.toCtx (g_table_until T) (by decide) (b_table_until T) gl_Form___init___table_until T.g_table_until T.F_table_until.kp (ea_cons (ev_var c.toCtx 1 nm_Form___init___1) ea_nil)) (fun v_index17 => (sx_if (et_cmp o_notN (ev_var c.toCtx 2 nm_Form___init___2) ev_non) sx_stuck (sx_pop (sx_if (et_not (et_val (ev_call c.toCtx (g_is_sure T) (by decide) (b_is_sure T) gl_Form___init___is_sure T.g_is_sure T.F_is_sure.kp (ea_cons (ev_var c.toCtx 1 nm_Form___init___1) ea_nil)))) sx_stuck (sx_pop (sx_fldI c 0 nm_Form___init___0 rfl T.fl_Form_rows (lenFB lenF0 rfl) (ev_var c.toCtx 1 nm_Form___init___1) (fun v_rows27 => (sx_fldI c 0 nm_Form___init___0 rfl T.fl_Form_total (lenFB (lenF lenF0) rfl) (ev_call c.toCtx (g_determinant_of T 8) (by decide) (b_determinant_of T) gl_Form___init___determinant_of T.g_determinant_of T.F_determinant_of.kp (ea_cons (ev_var c.toCtx 1 nm_Form___init___1) ea_nil)) (fun v_total31 => (sx_endF [1, 2] rfl rfl)))))))))))))
abbrev N__law_table : List Str := ["rows", "row"]
theorem sc__law_table : FnScope N__law_table ["rows"] (defScope s__law_table) := ⟨rfl, rfl, rfl, by decide +kernel, rfl, by decide +kernel, by decide +kernel⟩
theorem nm__law_table_0 : Nm N__law_table (defScope s__law_table) 0 "rows" := ⟨by decide +kernel⟩
theorem gl__law_table_tuple : glB (defScope s__law_table) "tuple" = true := by decide +kernel
theorem g__law_table (T : Fx K mg) : FnG P w K mg base 1 T.a__law_table T.d__law_table ["rows"] m__law_table := okG T.F__law_table sc__law_table (fun xs h => match xs, h with | [], _ => rfl | [_], h => absurd rfl h | _ :: _ :: _, _ => rfl) fun cdv A outer s H E xs c hl => match xs, hl with | [a_rows], _ => (sx_ret' (ev_bty c.toCtx f_tuple gl__law_table_tuple T.z_tuple bt_tuple (ea_cons (ev_lc c.toCtx (i := 1) (own := [("row", 1)]) (by decide +kernel) ⟨by decide +kernel⟩ (by decide) (Nat.le_of_ble_eq_true rfl) (wi_val (ev_var c.toCtx 0 nm__law_table_0)) (fun v6 s_ H_ C_ cl_ fp_ => (ev_bty (c.toCtx.blk _ s_ H_ C_ cl_ fp_) f_tuple (by decide +kernel) T.z_tuple bt_tuple (ea_cons (ev_var (c.toCtx.blk _ s_ H_ C_ cl_ fp_) 1 ⟨by decide +kernel⟩) ea_nil)))).1 ea_nil)))
abbrev N__law_made : List Str := ["rows"]
theorem sc__law_made : FnScope N__law_made ["rows"] (defScope s__law_made) := ⟨rfl, rfl, rfl, by decide +kernel, rfl, by decide +kernel, by decide +kernel⟩
theorem nm__law_made_0 : Nm N__law_made (defScope s__law_made) 0 "rows" := ⟨by decide +kernel⟩
theorem gl__law_made__law_table : glB (defScope s__law_made) "_law_table" = true := by decide +kernel
theorem gl__law_made_Form : glB (defScope s__law_made) "Form" = true := by decide +kernel
theorem g__law_made (T : Fx K mg) : FnG P w K mg base 12 T.a__law_made T.d__law_made ["rows"] m__law_made := okG T.F__law_made sc__law_made (fun xs h => match xs, h with | [], _ => rfl | [_], h => absurd rfl h | _ :: _ :: _, _ => rfl) fun cdv A outer s H E xs c hl => match xs, hl with | [a_rows], _ => (sx_ret' (ev_make c.toCtx T.M_Form (g_Form___init__ T) (by decide) (b_Form___init__ T) gl__law_made_Form T.g_Form (ea_cons (ev_call c.toCtx (g__law_table T) (by decide) (b__law_table T) gl__law_made__law_table T.g__law_table T.F__law_table.kp (ea_cons (ev_var c.toCtx 0 nm__law_made_0) ea_nil)) ea_nil)))
abbrev N__law_point : List Str := ["jar", "size", "menu", "k"]
theorem sc__law_point : FnScope N__law_point ["jar", "size"] (defScope s__law_point) := ⟨rfl, rfl, rfl, by decide +kernel, rfl, by decide +kernel, by decide +kernel⟩
theorem nm__law_point_0 : Nm N__law_point (defScope s__law_point) 0 "jar" := ⟨by decide +kernel⟩
theorem gl__law_point__law_dip : glB (defScope s__law_point) "_law_dip" = true := by decide +kernel
theorem nm__law_point_1 : Nm N__law_point (defScope s__law_point) 1 "size" := ⟨by decide +kernel⟩
theorem gl__law_point_range : glB (defScope s__law_point) "range" = true := by decide +kernel
theorem gl__law_point_tuple : glB (defScope s__law_point) "tuple" = true := by decide +kernel
theorem lk__law_point_2 : Lk N__law_point (defScope s__law_point) 2 "menu" := ⟨by decide +kernel⟩
theorem g__law_point (T : Fx K mg) : FnG P w K mg base 3 T.a__law_point T.d__law_point ["jar", "size"] m__law_point := okG T.F__law_point sc__law_point (fun xs h => match xs, h with | [], _ => rfl | [_], _ => rfl | [_, _], h => absurd rfl h | _ :: _ :: _ :: _, _ => rfl) fun cdv A outer s H E xs c hl => match xs, hl with | [a_jar, a_size], _ => (sx_asg c 2 lk__law_point_2 (Nat.le_of_ble_eq_true rfl) (ev_lst (ea_cons ev_int (ea_cons ev_int (ea_cons (ev_neg ev_int) (ea_cons ev_int (ea_cons (ev_neg ev_int) (ea_cons ev_int (ea_cons (ev_bin o_pow ev_int ev_int) (ea_cons (ev_neg (ev_bin o_pow ev_int ev_int)) (ea_cons (ev_call c.toCtx (g__law_dip T) (by decide) (b__law_dip T) gl__law_point__law_dip T.g__law_dip T.F__law_dip.kp (ea_cons (ev_var c.toCtx 0 nm__law_point_0) (ea_cons ev_int ea_nil))) ea_nil)))))))))) (fun v_menu32 => (sx_ret' (ev_bty c.toCtx f_tuple gl__law_point_tuple T.z_tuple bt_tuple (ea_cons (ev_lc c.toCtx (i := 3) (own := [("k", 3)]) (by decide +kernel) ⟨by decide +kernel⟩ (by decide) (Nat.le_of_ble_eq_true rfl) (wi_range1 c.toCtx gl__law_point_range T.z_range (ea_cons (ev_var c.toCtx 1 nm__law_point_1) ea_nil)) (fun v40 s_ H_ C_ cl_ fp_ => (ev_call (c.toCtx.blk _ s_ H_ C_ cl_ fp_) (g__law_one_of T) (by decide) (b__law_one_of T) (by decide +kernel) T.g__law_one_of T.F__law_one_of.kp (ea_cons (ev_var (c.toCtx.blk _ s_ H_ C_ cl_ fp_) 0 ⟨by decide +kernel⟩) (ea_cons (ev_var (c.toCtx.blk _ s_ H_ C_ cl_ fp_) 2 ⟨by decide +kernel⟩) ea_nil))))).1 ea_nil)))))
abbrev N__law_times : List Str := ["rows", "one", "two", "total", "k", "j"]
theorem sc__law_times : FnScope N__law_times ["rows", "one", "two"] (defScope s__law_times) := ⟨rfl, rfl, rfl, by decide +kernel, rfl, by decide +kernel, by decide +kernel⟩
theorem nm__law_times_3 : Nm N__law_times (defScope s__law_times) 3 "total" := ⟨by decide +kernel⟩
theorem nm__law_times_0 : Nm N__law_times (defScope s__law_times) 0 "rows" := ⟨by decide +kernel⟩
theorem nm__law_times_4 : Nm N__law_times (defScope s__law_times) 4 "k" := ⟨by decide +kernel⟩
theorem nm__law_times_5 : Nm N__law_times (defScope s__law_times) 5 "j" := ⟨by decide +kernel⟩
theorem nm__law_times_1 : Nm N__law_times (defScope s__law_times) 1 "one" := ⟨by decide +kernel⟩
theorem nm__law_times_2 : Nm N__law_times (defScope s__law_times) 2 "two" := ⟨by decide +kernel⟩
theorem lk__law_times_3 : Lk N__law_times (defScope s__law_times) 3 "total" := ⟨by decide +kernel⟩
theorem lk__law_times_5 : Lk N__law_times (defScope s__law_times) 5 "j" := ⟨by decide +kernel⟩
theorem gl__law_times_len : glB (defScope s__law_times) "len" = true := by decide +kernel
theorem gl__law_times_range : glB (defScope s__law_times) "range" = true := by decide +kernel
theorem lk__law_times_4 : Lk N__law_times (defScope s__law_times) 4 "k" := ⟨by decide +kernel⟩
theorem g__law_times (T : Fx K mg) : FnG P w K mg base 1 T.a__law_times T.d__law_times ["rows", "one", "two"] m__law_times := okG T.F__law_times sc__law_times (fun xs h => match xs, h with | [], _ => rfl | [_], _ => rfl | [_, _], _ => rfl | [_, _, _], h => absurd rfl h | _ :: _ :: _ :: _ :: _, _ => rfl) fun cdv A outer s H E xs c hl => match xs, hl with | [a_rows, a_one, a_two], _ => (sx_asg c 3 lk__law_times_3 (Nat.le_of_ble_eq_true rfl) ev_int (fun v_total1 => (sx_then (st_only (st_for c.toCtx (τ := Val) (fun (st_ : Val) => ([.fz a_rows, .fz a_one, .fz a_two, .fz st_, .un, .un] : Tv.Env)) id [] v_total1 rfl (wi_range1 c.toCtx gl__law_times_range T.z_range (ea_cons (ev_blt c.toCtx f_len gl__law_times_len T.z_len bt_len (ea_cons (ev_var c.toCtx 0 nm__law_times_0) ea_nil)) ea_nil)) (fun st2 x3 => tb_name c 4 lk__law_times_4 (Nat.le_of_ble_eq_true rfl) (sx_then (st_only (st_for c.toCtx (τ := Val) (fun (st_ : Val) => ([.fz a_rows, .fz a_one, .fz a_two, .fz st_, .fz x3, .un] : Tv.Env)) id [] st2 rfl (wi_range1 c.toCtx gl__law_times_range T.z_range (ea_cons (ev_blt c.toCtx f_len gl__law_times_len T.z_len bt_len (ea_cons (ev_var c.toCtx 0 nm__law_times_0) ea_nil)) ea_nil)) (fun st4 x5 => tb_name c 5 lk__law_times_5 (Nat.le_of_ble_eq_true rfl) (sx_asg c 3 lk__law_times_3 (Nat.le_of_ble_eq_true rfl) (ev_bin o_add (ev_var c.toCtx 3 nm__law_times_3) (ev_bin o_mul (ev_bin o_mul (ev_ix (fun _ _ => rfl) (ev_ix (fun _ _ => rfl) (ev_var c.toCtx 0 nm__law_times_0) (ev_var c.toCtx 4 nm__law_times_4)) (ev_var c.toCtx 5 nm__law_times_5)) (ev_ix (fun _ _ => rfl) (ev_var c.toCtx 1 nm__law_times_1) (ev_var c.toCtx 4 nm__law_times_4))) (ev_ix (fun _ _ => rfl) (ev_var c.toCtx 2 nm__law_times_2) (ev_var c.toCtx 5 nm__law_times_5)))) (fun v_total20 => (sx_endF [5] rfl (by kernel_rfl))))))) (fun st28 => (sx_endF [4] rfl (by kernel_rfl))))))) (fun st36 => (sx_ret' (ev_var c.toCtx 3 nm__law_times_3))))))
abbrev N_Form_places : List Str := ["self"]
theorem sc_Form_places : FnScope N_Form_places ["self"] (defScope s_Form_places) := ⟨rfl, rfl, rfl, by decide +kernel, rfl, by decide +kernel, by decide +kernel⟩
theorem nm_Form_places_0 : Nm N_Form_places (defScope s_Form_places) 0 "self" := ⟨by decide +kernel⟩
theorem gl_Form_places_len : glB (defScope s_Form_places) "len" = true := by decide +kernel
theorem g_Form_places (T : Fx K mg) : FnG P w K mg base 1 T.a_Form_places T.d_Form_places ["self"] m_Form_places := okG T.F_Form_places sc_Form_places (fun xs h => match xs, h with | [], _ => rfl | [_], h => absurd rfl h | _ :: _ :: _, _ => rfl) fun cdv A outer s H E xs c hl => match xs, hl with | [a_self], _ => (sx_ret' (ev_blt c.toCtx f_len gl_Form_places_len T.z_len bt_len (ea_cons (ev_fld (cs := ["Form"]) (List.forall_mem_cons.mpr ⟨T.fl_Form_rows, List.forall_mem_nil _⟩) (ev_var c.toCtx 0 nm_Form_places_0)) ea_nil)))
abbrev N_check_point : List Str := ["form", "point", "index", "place"]
theorem sc_check_point : FnScope N_check_point ["form", "point"] (defScope s_check_point) := ⟨rfl, rfl, rfl, by decide +kernel, rfl, by decide +kernel, by decide +kernel⟩
theorem nm_check_point_1 : Nm N_check_point (defScope s_check_point) 1 "point" := ⟨by decide +kernel⟩
theorem gl_check_point_isinstance : glB (defScope s_check_point) "isinstance" = true := by decide +kernel
theorem gl_check_point_tuple : glB (defScope s_check_point) "tuple" = true := by decide +kernel
theorem gl_check_point_len : glB (defScope s_check_point) "len" = true := by decide +kernel
theorem nm_check_point_0 : Nm N_check_point (defScope s_check_point) 0 "form" := ⟨by decide +kernel⟩
theorem nm_check_point_3 : Nm N_check_point (defScope s_check_point) 3 "place" := ⟨by decide +kernel⟩
theorem gl_check_point_is_integer : glB (defScope s_check_point) "is_integer" = true := by decide +kernel
theorem lk_check_point_2 : Lk N_check_point (defScope s_check_point) 2 "index" := ⟨by decide +kernel⟩
theorem lk_check_point_3 : Lk N_check_point (defScope s_check_point) 3 "place" := ⟨by decide +kernel⟩
theorem gl_check_point_enumerate : glB (defScope s_check_point) "enumerate" = true := by decide +kernel
theorem g_check_point (T : Fx K mg) : FnG P w K mg base 3 T.a_check_point T.d_check_point ["form", "point"] m_check_point := okG T.F_check_point sc_check_point (fun xs h => match xs, h with | [], _ => rfl | [_], _ => rfl | [_, _], h => absurd rfl h | _ :: _ :: _ :: _, _ => rfl) fun cdv A outer s H E xs c hl => match xs, hl with | [a_form, a_point], _ => (sx_if (et_bool (ew_or (et_not (et_val (ev_isB c.toCtx gl_check_point_isinstance T.z_isinstance gl_check_point_tuple T.z_tuple PyProof.Rows.boot_tuple (by decide) (ev_var c.toCtx 1 nm_check_point_1)))) (ew_or1 (et_cmp (o_ne c.toCtx) (ev_blt c.toCtx f_len gl_check_point_len T.z_len bt_len (ea_cons (ev_var c.toCtx 1 nm_check_point_1) ea_nil)) (ev_prop c.toCtx T.g_Form T.C_Form T.P_Form_places (g_Form_places T) (by decide) (b_Form_places T) (ev_var c.toCtx 0 nm_check_point_0)))))) sx_stuck (sx_pop (sx_then (st_only (st_for c.toCtx (τ := Val) (fun (st_ : Unit) => ([.fz a_form, .fz a_point, .un, .un] : Tv.Env)) id [] () rfl (wi_enum c.toCtx gl_check_point_enumerate T.z_enumerate (ea_cons (ev_var c.toCtx 1 nm_check_point_1) ea_nil)) (fun st12 x13 => tb_tup2 c 2 3 lk_check_point_2 lk_check_point_3 (Nat.le_of_ble_eq_true rfl) (Nat.le_of_ble_eq_true rfl) (fun v_index14 v_place15 => (sx_if (et_not (et_val (ev_call c.toCtx (g_is_integer T) (by decide) (b_is_integer T) gl_check_point_is_integer T.g_is_integer T.F_is_integer.kp (ea_cons (ev_var c.toCtx 3 nm_check_point_3) ea_nil)))) sx_stuck (sx_pop (sx_endF [2, 3] rfl (by kernel_rfl)))))))) (fun st26 => sx_endr))))
abbrev N_product_of : List Str := ["table", "one", "other", "total", "row", "first", "entry", "second"]
theorem sc_product_of : FnScope N_product_of ["table", "one", "other"] (defScope s_product_of) := ⟨rfl, rfl, rfl, by decide +kernel, rfl, by decide +kernel, by decide +kernel⟩
theorem nm_product_of_5 : Nm N_product_of (defScope s_product_of) 5 "first" := ⟨by decide +kernel⟩
theorem nm_product_of_2 : Nm N_product_of (defScope s_product_of) 2 "other" := ⟨by decide +kernel⟩
theorem nm_product_of_4 : Nm N_product_of (defScope s_product_of) 4 "row" := ⟨by decide +kernel⟩
theorem gl_product_of_zip : glB (defScope s_product_of) "zip" = true := by decide +kernel
theorem gl_product_of_sum : glB (defScope s_product_of) "sum" = true := by decide +kernel
theorem lk_product_of_3 : Lk N_product_of (defScope s_product_of) 3 "total" := ⟨by decide +kernel⟩
theorem lk_product_of_4 : Lk N_product_of (defScope s_product_of) 4 "row" := ⟨by decide +kernel⟩
theorem lk_product_of_5 : Lk N_product_of (defScope s_product_of) 5 "first" := ⟨by decide +kernel⟩
theorem nm_product_of_1 : Nm N_product_of (defScope s_product_of) 1 "one" := ⟨by decide +kernel⟩
theorem nm_product_of_0 : Nm N_product_of (defScope s_product_of) 0 "table" := ⟨by decide +kernel⟩
theorem nm_product_of_3 : Nm N_product_of (defScope s_product_of) 3 "total" := ⟨by decide +kernel⟩
theorem g_product_of (T : Fx K mg) : FnG P w K mg base 1 T.a_product_of T.d_product_of ["table", "one", "other"] m_product_of := okG T.F_product_of sc_product_of (fun xs h => match xs, h with | [], _ => rfl | [_], _ => rfl | [_, _], _ => rfl | [_, _, _], h => absurd rfl h | _ :: _ :: _ :: _ :: _, _ => rfl) fun cdv A outer s H E xs c hl => match xs, hl with | [a_table, a_one, a_other], _ => (sx_asg c 3 lk_product_of_3 (Nat.le_of_ble_eq_true rfl) ev_int (fun v_total1 => (sx_then (st_only (st_for c.toCtx (τ := Val) (fun (st_ : Val) => ([.fz a_table, .fz a_one, .fz a_other, .fz st_, .un, .un, .un, .un] : Tv.Env)) id [] v_total1 rfl (wi_zip c.toCtx gl_product_of_zip T.z_zip (ea_cons (ev_var c.toCtx 0 nm_product_of_0) (ea_cons (ev_var c.toCtx 1 nm_product_of_1) ea_nil))) (fun st2 x3 => tb_tup2 c 4 5 lk_product_of_4 lk_product_of_5 (Nat.le_of_ble_eq_true rfl) (Nat.le_of_ble_eq_true rfl) (fun v_row4 v_first5 => (sx_augI c 3 ip_add lk_product_of_3 rfl (Nat.le_of_ble_eq_true rfl) (ev_bin o_mul (ev_var c.toCtx 5 nm_product_of_5) (ev_blt c.toCtx (f_sum c.toCtx) gl_product_of_sum T.z_sum bt_sum (ea_cons (ev_lc2 c.toCtx (i := 6) (j := 7) (own := [("entry", 6), ("second", 7)]) (by decide +kernel) ⟨by decide +kernel⟩ ⟨by decide +kernel⟩ (by decide) (by decide) (Nat.le_of_ble_eq_true rfl) (Nat.le_of_ble_eq_true rfl) (wi_zip c.toCtx gl_product_of_zip T.z_zip (ea_cons (ev_var c.toCtx 4 nm_product_of_4) (ea_cons (ev_var c.toCtx 2 nm_product_of_2) ea_nil))) (fun v15 v16 s_ H_ C_ cl_ fp_ => (ev_bin o_mul (ev_var (c.toCtx.blk _ s_ H_ C_ cl_ fp_) 6 ⟨by decide +kernel⟩) (ev_var (c.toCtx.blk _ s_ H_ C_ cl_ fp_) 7 ⟨by decide +kernel⟩)))).1 ea_nil))) (fun v_total23 => (sx_endF [4, 5] rfl (by kernel_rfl)))))))) (fun st30 => (sx_ret' (ev_var c.toCtx 3 nm_product_of_3))))))
abbrev N_Form_value : List Str := ["self", "point"]
theorem sc_Form_value : FnScope N_Form_value ["self", "point"] (defScope s_Form_value) := ⟨rfl, rfl, rfl, by decide +kernel, rfl, by decide +kernel, by decide +kernel⟩
theorem nm_Form_value_1 : Nm N_Form_value (defScope s_Form_value) 1 "point" := ⟨by decide +kernel⟩
theorem nm_Form_value_0 : Nm N_Form_value (defScope s_Form_value) 0 "self" := ⟨by decide +kernel⟩
theorem gl_Form_value_check_point : glB (defScope s_Form_value) "check_point" = true := by decide +kernel
theorem gl_Form_value_product_of : glB (defScope s_Form_value) "product_of" = true := by decide +kernel
theorem g_Form_value (T : Fx K mg) : FnG P w K mg base 4 T.a_Form_value T.d_Form_value ["self", "point"] m_Form_value := okG T.F_Form_value sc_Form_value (fun xs h => match xs, h with | [], _ => rfl | [_], _ => rfl | [_, _], h => absurd rfl h | _ :: _ :: _ :: _, _ => rfl) fun cdv A outer s H E xs c hl => match xs, hl with | [a_self, a_point], _ => (sx_expr (ev_call c.toCtx (g_check_point T) (by decide) (b_check_point T) gl_Form_value_check_point T.g_check_point T.F_check_point.kp (ea_cons (ev_var c.toCtx 0 nm_Form_value_0) (ea_cons (ev_var c.toCtx 1 nm_Form_value_1) ea_nil))) (sx_ret' (ev_call c.toCtx (g_product_of T) (by decide) (b_product_of T) gl_Form_value_product_of T.g_product_of T.F_product_of.kp (ea_cons (ev_fld (cs := ["Form"]) (List.forall_mem_cons.mpr ⟨T.fl_Form_rows, List.forall_mem_nil _⟩) (ev_var c.toCtx 0 nm_Form_value_0)) (ea_cons (ev_var c.toCtx 1 nm_Form_value_1) (ea_cons (ev_var c.toCtx 1 nm_Form_value_1) ea_nil))))))
abbrev N_Form_product : List Str := ["self", "one", "two"]
theorem sc_Form_product : FnScope N_Form_product ["self", "one", "two"] (defScope s_Form_product) := ⟨rfl, rfl, rfl, by decide +kernel, rfl, by decide +kernel, by decide +kernel⟩
theorem nm_Form_product_1 : Nm N_Form_product (defScope s_Form_product) 1 "one" := ⟨by decide +kernel⟩
theorem nm_Form_product_0 : Nm N_Form_product (defScope s_Form_product) 0 "self" := ⟨by decide +kernel⟩
theorem gl_Form_product_check_point : glB (defScope s_Form_product) "check_point" = true := by decide +kernel
theorem nm_Form_product_2 : Nm N_Form_product (defScope s_Form_product) 2 "two" := ⟨by decide +kernel⟩
theorem gl_Form_product_product_of : glB (defScope s_Form_product) "product_of" = true := by decide +kernel
theorem g_Form_product (T : Fx K mg) : FnG P w K mg base 4 T.a_Form_product T.d_Form_product ["self", "one", "two"] m_Form_product := okG T.F_Form_product sc_Form_product (fun xs h => match xs, h with | [], _ => rfl | [_], _ => rfl | [_, _], _ => rfl | [_, _, _], h => absurd rfl h | _ :: _ :: _ :: _ :: _, _ => rfl) fun cdv A outer s H E xs c hl => match xs, hl with | [a_self, a_one, a_two], _ => (sx_expr (ev_call c.toCtx (g_check_point T) (by decide) (b_check_point T) gl_Form_product_check_point T.g_check_point T.F_check_point.kp (ea_cons (ev_var c.toCtx 0 nm_Form_product_0) (ea_cons (ev_var c.toCtx 1 nm_Form_product_1) ea_nil))) (sx_expr (ev_call c.toCtx (g_check_point T) (by decide) (b_check_point T) gl_Form_product_check_point T.g_check_point T.F_check_point.kp (ea_cons (ev_var c.toCtx 0 nm_Form_product_0) (ea_cons (ev_var c.toCtx 2 nm_Form_product_2) ea_nil))) (sx_ret' (ev_call c.toCtx (g_product_of T) (by decide) (b_product_of T) gl_Form_product_product_of T.g_product_of T.F_product_of.kp (ea_cons (ev_fld (cs := ["Form"]) (List.forall_mem_cons.mpr ⟨T.fl_Form_rows, List.forall_mem_nil _⟩) (ev_var c.toCtx 0 nm_Form_product_0)) (ea_cons (ev_var c.toCtx 1 nm_Form_product_1) (ea_cons (ev_var c.toCtx 2 nm_Form_product_2) ea_nil)))))))
abbrev N__law_right : List Str := ["jar", "turn", "rows", "told", "added", "many", "mine", "size", "one", "two", "first", "last", "both", "k", "place"]
theorem sc__law_right : FnScope N__law_right ["jar"] (defScope s__law_right) := ⟨rfl, rfl, rfl, by decide +kernel, rfl, by decide +kernel, by decide +kernel⟩
theorem nm__law_right_0 : Nm N__law_right (defScope s__law_right) 0 "jar" := ⟨by decide +kernel⟩
theorem gl__law_right__law_rows : glB (defScope s__law_right) "_law_rows" = true := by decide +kernel
theorem nm__law_right_2 : Nm N__law_right (defScope s__law_right) 2 "rows" := ⟨by decide +kernel⟩
theorem gl__law_right__law_made : glB (defScope s__law_right) "_law_made" = true := by decide +kernel
theorem gl__law_right_len : glB (defScope s__law_right) "len" = true := by decide +kernel
theorem nm__law_right_7 : Nm N__law_right (defScope s__law_right) 7 "size" := ⟨by decide +kernel⟩
theorem gl__law_right__law_point : glB (defScope s__law_right) "_law_point" = true := by decide +kernel
theorem nm__law_right_6 : Nm N__law_right (defScope s__law_right) 6 "mine" := ⟨by decide +kernel⟩
theorem nm__law_right_9 : Nm N__law_right (defScope s__law_right) 9 "two" := ⟨by decide +kernel⟩
theorem nm__law_right_8 : Nm N__law_right (defScope s__law_right) 8 "one" := ⟨by decide +kernel⟩
theorem gl__law_right__law_times : glB (defScope s__law_right) "_law_times" = true := by decide +kernel
theorem nm__law_right_3 : Nm N__law_right (defScope s__law_right) 3 "told" := ⟨by decide +kernel⟩
theorem gl__law_right_repr : glB (defScope s__law_right) "repr" = true := by decide +kernel
theorem nm__law_right_12 : Nm N__law_right (defScope s__law_right) 12 "both" := ⟨by decide +kernel⟩
theorem nm__law_right_10 : Nm N__law_right (defScope s__law_right) 10 "first" := ⟨by decide +kernel⟩
theorem gl__law_right_range : glB (defScope s__law_right) "range" = true := by decide +kernel
theorem gl__law_right_tuple : glB (defScope s__law_right) "tuple" = true := by decide +kernel
theorem nm__law_right_4 : Nm N__law_right (defScope s__law_right) 4 "added" := ⟨by decide +kernel⟩
theorem nm__law_right_11 : Nm N__law_right (defScope s__law_right) 11 "last" := ⟨by decide +kernel⟩
theorem gl__law_right__law_one_of : glB (defScope s__law_right) "_law_one_of" = true := by decide +kernel
theorem nm__law_right_5 : Nm N__law_right (defScope s__law_right) 5 "many" := ⟨by decide +kernel⟩
theorem lk__law_right_5 : Lk N__law_right (defScope s__law_right) 5 "many" := ⟨by decide +kernel⟩
theorem lk__law_right_4 : Lk N__law_right (defScope s__law_right) 4 "added" := ⟨by decide +kernel⟩
theorem lc__law_right_10 : Lc N__law_right (defScope s__law_right) 10 "first" := ⟨by decide +kernel⟩
theorem lc__law_right_11 : Lc N__law_right (defScope s__law_right) 11 "last" := ⟨by decide +kernel⟩
theorem lc__law_right_12 : Lc N__law_right (defScope s__law_right) 12 "both" := ⟨by decide +kernel⟩
theorem lk__law_right_3 : Lk N__law_right (defScope s__law_right) 3 "told" := ⟨by decide +kernel⟩
theorem lk__law_right_8 : Lk N__law_right (defScope s__law_right) 8 "one" := ⟨by decide +kernel⟩
theorem lk__law_right_9 : Lk N__law_right (defScope s__law_right) 9 "two" := ⟨by decide +kernel⟩
theorem lc__law_right_6 : Lc N__law_right (defScope s__law_right) 6 "mine" := ⟨by decide +kernel⟩
theorem lc__law_right_7 : Lc N__law_right (defScope s__law_right) 7 "size" := ⟨by decide +kernel⟩
theorem lk__law_right_2 : Lk N__law_right (defScope s__law_right) 2 "rows" := ⟨by decide +kernel⟩
theorem lk__law_right_1 : Lk N__law_right (defScope s__law_right) 1 "turn" := ⟨by decide +kernel⟩
theorem g__law_right (T : Fx K mg) : FnG P w K mg base 13 T.a__law_right T.d__law_right ["jar"] m__law_right := okG T.F__law_right sc__law_right (fun xs h => match xs, h with | [], _ => rfl | [_], h => absurd rfl h | _ :: _ :: _, _ => rfl) fun cdv A outer s H E xs c hl => match xs, hl with | [a_jar], _ => (sx_thenR (st_nxRt (st_for c.toCtx (τ := Val) (fun (st_ : Unit) => ([.fz a_jar, .un, .un, .un, .un, .un, .un, .un, .un, .un, .un, .un, .un, .un, .un] : Tv.Env)) id [] () rfl (wi_range1 c.toCtx gl__law_right_range T.z_range (ea_cons ev_int ea_nil)) (fun st1 x2 => tb_name c 1 lk__law_right_1 (Nat.le_of_ble_eq_true rfl) (sx_asg c 2 lk__law_right_2 (Nat.le_of_ble_eq_true rfl) (ev_call c.toCtx (g__law_rows T) (by decide) (b__law_rows T) gl__law_right__law_rows T.g__law_rows T.F__law_rows.kp (ea_cons (ev_var c.toCtx 0 nm__law_right_0) (ea_cons ev_int (ea_cons ev_int ea_nil)))) (fun v_rows10 => (sx_par c.toCtx 6 7 lc__law_right_6 lc__law_right_7 (by decide) (Nat.le_of_ble_eq_true rfl) (Nat.le_of_ble_eq_true rfl) (ev_call c.toCtx (g__law_made T).toM (by decide) (b__law_made T) gl__law_right__law_made T.g__law_made T.F__law_made.kp (ea_cons (ev_var c.toCtx 2 nm__law_right_2) ea_nil)) (ev_blt c.toCtx f_len gl__law_right_len T.z_len bt_len (ea_cons (ev_var c.toCtx 2 nm__law_right_2) ea_nil)) (fun v_mine17 v_size18 => (sx_asg2 c 8 9 lk__law_right_8 lk__law_right_9 (Nat.le_of_ble_eq_true rfl) (Nat.le_of_ble_eq_true rfl) (ev_tup (ea_cons (ev_call c.toCtx (g__law_point T) (by decide) (b__law_point T) gl__law_right__law_point T.g__law_point T.F__law_point.kp (ea_cons (ev_var c.toCtx 0 nm__law_right_0) (ea_cons (ev_var c.toCtx 7 nm__law_right_7) ea_nil))) (ea_cons (ev_call c.toCtx (g__law_point T) (by decide) (b__law_point T) gl__law_right__law_point T.g__law_point T.F__law_point.kp (ea_cons (ev_var c.toCtx 0 nm__law_right_0) (ea_cons (ev_var c.toCtx 7 nm__law_right_7) ea_nil))) ea_nil))) (fun v_one35 v_two36 => (sx_asg c 3 lk__law_right_3 (Nat.le_of_ble_eq_true rfl) (ev_lst (ea_cons (ev_meth c.toCtx T.g_Form T.C_Form T.M_Form_value (g_Form_value T).toM (by decide) (b_Form_value T) (ev_var c.toCtx 6 nm__law_right_6) (ea_cons (ev_var c.toCtx 8 nm__law_right_8) ea_nil)) (ea_cons (ev_methK0 c.toCtx T.g_Form T.C_Form T.M_Form_value (g_Form_value T).toM (by decide) (kb_Form_value_1_point T) (ev_var c.toCtx 6 nm__law_right_6) (ek_cons (ev_var c.toCtx 8 nm__law_right_8) ek_nil) (fun _ => rfl) (fun _ => rfl) (fun _ => rfl)) (ea_cons (ev_meth c.toCtx T.g_Form T.C_Form T.M_Form_product (g_Form_product T).toM (by decide) (b_Form_product T) (ev_var c.toCtx 6 nm__law_right_6) (ea_cons (ev_var c.toCtx 8 nm__law_right_8) (ea_cons (ev_var c.toCtx 9 nm__law_right_9) ea_nil))) (ea_cons (ev_methK0 c.toCtx T.g_Form T.C_Form T.M_Form_product (g_Form_product T).toM (by decide) (kb_Form_product_1_two_one T) (ev_var c.toCtx 6 nm__law_right_6) (ek_cons (ev_var c.toCtx 9 nm__law_right_9) (ek_cons (ev_var c.toCtx 8 nm__law_right_8) ek_nil)) (fun _ => rfl) (fun _ => rfl) (fun _ => rfl)) ea_nil))))) (fun v_told70 => (sx_par3 c.toCtx 10 11 12 lc__law_right_10 lc__law_right_11 lc__law_right_12 (by decide) (by decide) (by decide) (Nat.le_of_ble_eq_true rfl) (Nat.le_of_ble_eq_true rfl) (Nat.le_of_ble_eq_true rfl) (ev_call c.toCtx (g__law_times T).toM (by decide) (b__law_times T) gl__law_right__law_times T.g__law_times T.F__law_times.kp (ea_cons (ev_var c.toCtx 2 nm__law_right_2) (ea_cons (ev_var c.toCtx 8 nm__law_right_8) (ea_cons (ev_var c.toCtx 8 nm__law_right_8) ea_nil)))) (ev_call c.toCtx (g__law_times T).toM (by decide) (b__law_times T) gl__law_right__law_times T.g__law_times T.F__law_times.kp (ea_cons (ev_var c.toCtx 2 nm__law_right_2) (ea_cons (ev_var c.toCtx 9 nm__law_right_9) (ea_cons (ev_var c.toCtx 9 nm__law_right_9) ea_nil)))) (ev_call c.toCtx (g__law_times T).toM (by decide) (b__law_times T) gl__law_right__law_times T.g__law_times T.F__law_times.kp (ea_cons (ev_var c.toCtx 2 nm__law_right_2) (ea_cons (ev_var c.toCtx 8 nm__law_right_8) (ea_cons (ev_var c.toCtx 9 nm__law_right_9) ea_nil)))) (fun v_first92 v_last93 v_both94 => (sx_if (et_bool (ew_or (et_cmp (o_ne c.toCtx) (ev_blt c.toCtx (f_repr c.toCtx) gl__law_right_repr T.z_repr bt_repr (ea_cons (ev_var c.toCtx 3 nm__law_right_3) ea_nil)) (ev_blt c.toCtx (f_repr c.toCtx) gl__law_right_repr T.z_repr bt_repr (ea_cons (ev_lst (ea_cons (ev_var c.toCtx 10 nm__law_right_10) (ea_cons (ev_var c.toCtx 10 nm__law_right_10) (ea_cons (ev_var c.toCtx 12 nm__law_right_12) (ea_cons (ev_var c.toCtx 12 nm__law_right_12) ea_nil))))) ea_nil))) (ew_or1 (et_cmp (o_ne c.toCtx) (ev_meth c.toCtx T.g_Form T.C_Form T.M_Form_product (g_Form_product T).toM (by decide) (b_Form_product T) (ev_var c.toCtx 6 nm__law_right_6) (ea_cons (ev_var c.toCtx 9 nm__law_right_9) (ea_cons (ev_var c.toCtx 8 nm__law_right_8) ea_nil))) (ev_var c.toCtx 12 nm__law_right_12))))) (sx_ret (f := fun v => Fl.rt v) ev_bl (fun _ => .inl rfl)) (sx_pop (sx_asg c 4 lk__law_right_4 (Nat.le_of_ble_eq_true rfl) (ev_bty c.toCtx f_tuple gl__law_right_tuple T.z_tuple bt_tuple (ea_cons (ev_lc c.toCtx (i := 13) (own := [("k", 13)]) (by decide +kernel) ⟨by decide +kernel⟩ (by decide) (Nat.le_of_ble_eq_true rfl) (wi_range1 c.toCtx gl__law_right_range T.z_range (ea_cons (ev_var c.toCtx 7 nm__law_right_7) ea_nil)) (fun v131 s_ H_ C_ cl_ fp_ => (ev_bin o_add (ev_ixM (fun _ _ => rfl) (ev_var (c.toCtx.blk _ s_ H_ C_ cl_ fp_) 8 ⟨by decide +kernel⟩) (ev_var (c.toCtx.blk _ s_ H_ C_ cl_ fp_) 13 ⟨by decide +kernel⟩)) (ev_ixM (fun _ _ => rfl) (ev_var (c.toCtx.blk _ s_ H_ C_ cl_ fp_) 9 ⟨by decide +kernel⟩) (ev_var (c.toCtx.blk _ s_ H_ C_ cl_ fp_) 13 ⟨by decide +kernel⟩))))).1 ea_nil)) (fun v_added139 => (sx_if (et_cmp (o_ne c.toCtx) (ev_meth c.toCtx T.g_Form T.C_Form T.M_Form_value (g_Form_value T).toM (by decide) (b_Form_value T) (ev_var c.toCtx 6 nm__law_right_6) (ea_cons (ev_var c.toCtx 4 nm__law_right_4) ea_nil)) (ev_bin o_add (ev_bin o_add (ev_var c.toCtx 10 nm__law_right_10) (ev_bin o_mul ev_int (ev_var c.toCtx 12 nm__law_right_12))) (ev_var c.toCtx 11 nm__law_right_11))) (sx_ret (f := fun v => Fl.rt v) ev_bl (fun _ => .inl rfl)) (sx_pop (sx_asg c 5 lk__law_right_5 (Nat.le_of_ble_eq_true rfl) (ev_call c.toCtx (g__law_one_of T) (by decide) (b__law_one_of T) gl__law_right__law_one_of T.g__law_one_of T.F__law_one_of.kp (ea_cons (ev_var c.toCtx 0 nm__law_right_0) (ea_cons (ev_lst (ea_cons ev_int (ea_cons (ev_neg ev_int) (ea_cons ev_int (ea_cons (ev_neg ev_int) (ea_cons (ev_bin o_pow ev_int ev_int) ea_nil)))))) ea_nil))) (fun v_many175 => (sx_if (et_cmp (o_ne c.toCtx) (ev_meth c.toCtx T.g_Form T.C_Form T.M_Form_value (g_Form_value T).toM (by decide) (b_Form_value T) (ev_var c.toCtx 6 nm__law_right_6) (ea_cons (ev_bty c.toCtx f_tuple gl__law_right_tuple T.z_tuple bt_tuple (ea_cons (ev_lc c.toCtx (i := 14) (own := [("place", 14)]) (by decide +kernel) ⟨by decide +kernel⟩ (by decide) (Nat.le_of_ble_eq_true rfl) (wi_val (ev_var c.toCtx 8 nm__law_right_8)) (fun v186 s_ H_ C_ cl_ fp_ => (ev_bin o_mul (ev_var (c.toCtx.blk _ s_ H_ C_ cl_ fp_) 5 ⟨by decide +kernel⟩) (ev_var (c.toCtx.blk _ s_ H_ C_ cl_ fp_) 14 ⟨by decide +kernel⟩)))).1 ea_nil)) ea_nil)) (ev_bin o_mul (ev_bin o_mul (ev_var c.toCtx 5 nm__law_right_5) (ev_var c.toCtx 5 nm__law_right_5)) (ev_var c.toCtx 10 nm__law_right_10))) (sx_ret (f := fun v => Fl.rt v) ev_bl (fun _ => .inl rfl)) (sx_pop (sx_if (et_bool (ew_or (et_cmp (o_ne c.toCtx) (ev_cmp o_gt rfl (ev_meth c.toCtx T.g_Form T.C_Form T.M_Form_value (g_Form_value T).toM (by decide) (b_Form_value T) (ev_var c.toCtx 6 nm__law_right_6) (ea_cons (ev_var c.toCtx 8 nm__law_right_8) ea_nil)) ev_int) (ev_cmp (o_ne c.toCtx) rfl (ev_var c.toCtx 8 nm__law_right_8) (ev_bin o_mul (ev_tup (ea_cons ev_int ea_nil)) (ev_var c.toCtx 7 nm__law_right_7)))) (ew_or1 (et_cmp (o_ne c.toCtx) (ev_meth c.toCtx T.g_Form T.C_Form T.M_Form_value (g_Form_value T).toM (by decide) (b_Form_value T) (ev_var c.toCtx 6 nm__law_right_6) (ea_cons (ev_bin o_mul (ev_tup (ea_cons ev_int ea_nil)) (ev_var c.toCtx 7 nm__law_right_7)) ea_nil)) ev_int)))) (sx_ret (f := fun v => Fl.rt v) ev_bl (fun _ => .inl rfl)) (sx_pop (sx_endF [1, 2, 3, 4, 5, 6, 7, 8, 9, 10, 11, 12] rfl (by kernel_rfl))))))))))))))) rfl rfl rfl)))) rfl rfl rfl)) rfl rfl rfl)))))) (fun st233 => (sx_ret' ev_bl)) (fun _ => .inr rfl))
abbrev N__law_jar : List Str := ["cells", "turn", "cell", "mixed", "each"]
theorem sc__law_jar : FnScope N__law_jar ["cells", "turn"] (defScope s__law_jar) := ⟨rfl, rfl, rfl, by decide +kernel, rfl, by decide +kernel, by decide +kernel⟩
theorem nm__law_jar_1 : Nm N__law_jar (defScope s__law_jar) 1 "turn" := ⟨by decide +kernel⟩
theorem nm__law_jar_0 : Nm N__law_jar (defScope s__law_jar) 0 "cells" := ⟨by decide +kernel⟩
theorem gl__law_jar_len : glB (defScope s__law_jar) "len" = true := by decide +kernel
theorem nm__law_jar_3 : Nm N__law_jar (defScope s__law_jar) 3 "mixed" := ⟨by decide +kernel⟩
theorem nm__law_jar_4 : Nm N__law_jar (defScope s__law_jar) 4 "each" := ⟨by decide +kernel⟩
theorem gl__law_jar_int : glB (defScope s__law_jar) "int" = true := by decide +kernel
theorem lk__law_jar_3 : Lk N__law_jar (defScope s__law_jar) 3 "mixed" := ⟨by decide +kernel⟩
theorem lk__law_jar_4 : Lk N__law_jar (defScope s__law_jar) 4 "each" := ⟨by decide +kernel⟩
theorem nm__law_jar_2 : Nm N__law_jar (defScope s__law_jar) 2 "cell" := ⟨by decide +kernel⟩
theorem gl__law_jar_abs : glB (defScope s__law_jar) "abs" = true := by decide +kernel
theorem lk__law_jar_2 : Lk N__law_jar (defScope s__law_jar) 2 "cell" := ⟨by decide +kernel⟩
theorem g__law_jar (T : Fx K mg) : FnG P w K mg base 1 T.a__law_jar T.d__law_jar ["cells", "turn"] m__law_jar := okG T.F__law_jar sc__law_jar (fun xs h => match xs, h with | [], _ => rfl | [_], _ => rfl | [_, _], h => absurd rfl h | _ :: _ :: _ :: _, _ => rfl) fun cdv A outer s H E xs c hl => match xs, hl with | [a_cells, a_turn], _ => (sx_asg c 2 lk__law_jar_2 (Nat.le_of_ble_eq_true rfl) (ev_ifExp (et_cmp o_lt (ev_var c.toCtx 1 nm__law_jar_1) (ev_blt c.toCtx f_len gl__law_jar_len T.z_len bt_len (ea_cons (ev_var c.toCtx 0 nm__law_jar_0) ea_nil))) (ev_ixM (fun _ _ => rfl) (ev_var c.toCtx 0 nm__law_jar_0) (ev_var c.toCtx 1 nm__law_jar_1)) (ev_bin o_add (ev_bin o_mul ev_int (ev_var c.toCtx 1 nm__law_jar_1)) ev_int)) (fun v_cell13 => (sx_asg c 3 lk__law_jar_3 (Nat.le_of_ble_eq_true rfl) (ev_bin o_add ev_int (ev_bin o_mul ev_int (ev_var c.toCtx 1 nm__law_jar_1))) (fun v_mixed18 => (sx_then (st_only (st_for c.toCtx (τ := Val) (fun (st_ : Val) => ([.fz a_cells, .fz a_turn, .fz v_cell13, .fz st_, .un] : Tv.Env)) id [] v_mixed18 rfl (wi_val (ev_bin o_add (ev_slice (ev_var c.toCtx 0 nm__law_jar_0) ep_none (ep_some ev_int)) (ev_lst (ea_cons (ev_var c.toCtx 2 nm__law_jar_2) ea_nil)))) (fun st19 x20 => tb_name c 4 lk__law_jar_4 (Nat.le_of_ble_eq_true rfl) (sx_asg c 3 lk__law_jar_3 (Nat.le_of_ble_eq_true rfl) (ev_bin o_mod (ev_bty c.toCtx f_int gl__law_jar_int T.z_int bt_int (ea_cons (ev_bin o_add (ev_bin o_mul (ev_var c.toCtx 3 nm__law_jar_3) ev_int) (ev_var c.toCtx 4 nm__law_jar_4)) ea_nil)) ev_int) (fun v_mixed30 => (sx_endF [4] rfl (by kernel_rfl))))))) (fun st42 => (sx_ret' (ev_lstC (ea_cons (ev_ifExp (et_bool (ew_or (et_cmp o_lt (ev_var c.toCtx 2 nm__law_jar_2) ev_int) (ew_or1 (et_cmp o_ge (ev_var c.toCtx 2 nm__law_jar_2) (ev_bin o_pow ev_int ev_int))))) (ev_blt c.toCtx f_abs gl__law_jar_abs T.z_abs bt_abs (ea_cons (ev_var c.toCtx 2 nm__law_jar_2) ea_nil)) ev_int) (ea_cons (ev_var c.toCtx 3 nm__law_jar_3) (ea_cons ev_int ea_nil)))))))))))
abbrev N_law : List Str := ["cells", "turn"]
theorem sc_law : FnScope N_law ["cells"] (defScope s_law) := ⟨rfl, rfl, rfl, by decide +kernel, rfl, by decide +kernel, by decide +kernel⟩
theorem nm_law_0 : Nm N_law (defScope s_law) 0 "cells" := ⟨by decide +kernel⟩
theorem gl_law_len : glB (defScope s_law) "len" = true := by decide +kernel
theorem gl_law_min : glB (defScope s_law) "min" = true := by decide +kernel
theorem gl_law_max : glB (defScope s_law) "max" = true := by decide +kernel
theorem gl_law_range : glB (defScope s_law) "range" = true := by decide +kernel
theorem gl_law_all : glB (defScope s_law) "all" = true := by decide +kernel
theorem g_law (T : Fx K mg) : FnG P w K mg base 14 T.a_law T.d_law ["cells"] m_law := okG T.F_law sc_law (fun xs h => match xs, h with | [], _ => rfl | [_], h => absurd rfl h | _ :: _ :: _, _ => rfl) fun cdv A outer s H E xs c hl => match xs, hl with | [a_cells], _ => (sx_ret' (ev_blt c.toCtx (f_all c.toCtx) gl_law_all T.z_all bt_all (ea_cons (ev_lc c.toCtx (i := 1) (own := [("turn", 1)]) (by decide +kernel) ⟨by decide +kernel⟩ (by decide) (Nat.le_of_ble_eq_true rfl) (wi_range1 c.toCtx gl_law_range T.z_range (ea_cons (ev_blt c.toCtx (f_max c.toCtx) gl_law_max T.z_max bt_max (ea_cons ev_int (ea_cons (ev_blt c.toCtx (f_min c.toCtx) gl_law_min T.z_min bt_min (ea_cons (ev_blt c.toCtx f_len gl_law_len T.z_len bt_len (ea_cons (ev_var c.toCtx 0 nm_law_0) ea_nil)) (ea_cons ev_int ea_nil))) ea_nil))) ea_nil)) (fun v21 s_ H_ C_ cl_ fp_ => (ev_call (c.toCtx.blk _ s_ H_ C_ cl_ fp_) (g__law_right T) (by decide) (b__law_right T) (by decide +kernel) T.g__law_right T.F__law_right.kp (ea_cons (ev_call (c.toCtx.blk _ s_ H_ C_ cl_ fp_) (g__law_jar T) (by decide) (b__law_jar T) (by decide +kernel) T.g__law_jar T.F__law_jar.kp (ea_cons (ev_var (c.toCtx.blk _ s_ H_ C_ cl_ fp_) 0 ⟨by decide +kernel⟩) (ea_cons (ev_var (c.toCtx.blk _ s_ H_ C_ cl_ fp_) 1 ⟨by decide +kernel⟩) ea_nil))) ea_nil)))).1 ea_nil)))
end
end K05

end
section
set_option maxHeartbeats 0
/-! the head, printed by gen.py -/
namespace K05
open PySem PySem.Spec PyProof.Rows L2 Tv
def df__law_dip : DefY := ⟨fun K => He.ga K "_law_dip", "_law_dip", "_law_dip", defArgs s__law_dip, defBody s__law_dip, defScope s__law_dip⟩
def df__law_det : DefY := ⟨fun K => He.ga K "_law_det", "_law_det", "_law_det", defArgs s__law_det, defBody s__law_det, defScope s__law_det⟩
def df__law_square_rows : DefY := ⟨fun K => He.ga K "_law_square_rows", "_law_square_rows", "_law_square_rows", defArgs s__law_square_rows, defBody s__law_square_rows, defScope s__law_square_rows⟩
def df__law_spun : DefY := ⟨fun K => He.ga K "_law_spun", "_law_spun", "_law_spun", defArgs s__law_spun, defBody s__law_spun, defScope s__law_spun⟩
def df__law_one_of : DefY := ⟨fun K => He.ga K "_law_one_of", "_law_one_of", "_law_one_of", defArgs s__law_one_of, defBody s__law_one_of, defScope s__law_one_of⟩
def df__law_greatest : DefY := ⟨fun K => He.ga K "_law_greatest", "_law_greatest", "_law_greatest", defArgs s__law_greatest, defBody s__law_greatest, defScope s__law_greatest⟩
def df__law_is_sure : DefY := ⟨fun K => He.ga K "_law_is_sure", "_law_is_sure", "_law_is_sure", defArgs s__law_is_sure, defBody s__law_is_sure, defScope s__law_is_sure⟩
def df_is_integer : DefY := ⟨fun K => He.ga K "is_integer", "is_integer", "is_integer", defArgs s_is_integer, defBody s_is_integer, defScope s_is_integer⟩
def df_is_between : DefY := ⟨fun K => He.ga K "is_between", "is_between", "is_between", defArgs s_is_between, defBody s_is_between, defScope s_is_between⟩
def df_is_row : DefY := ⟨fun K => He.ga K "is_row", "is_row", "is_row", defArgs s_is_row, defBody s_is_row, defScope s_is_row⟩
def df_determinant_of : DefY := ⟨fun K => He.ga K "determinant_of", "determinant_of", "determinant_of", defArgs s_determinant_of, defBody s_determinant_of, defScope s_determinant_of⟩
def df_corner_of : DefY := ⟨fun K => He.ga K "corner_of", "corner_of", "corner_of", defArgs s_corner_of, defBody s_corner_of, defScope s_corner_of⟩
def df_table_until : DefY := ⟨fun K => He.ga K "table_until", "table_until", "table_until", defArgs s_table_until, defBody s_table_until, defScope s_table_until⟩
def df_is_sure : DefY := ⟨fun K => He.ga K "is_sure", "is_sure", "is_sure", defArgs s_is_sure, defBody s_is_sure, defScope s_is_sure⟩
def df_Form___init__ : DefY := ⟨fun K => He.ma K (He.ga K "Form") "__init__", "__init__", "Form.__init__", defArgs s_Form___init__, defBody s_Form___init__, defScope s_Form___init__⟩
def df__law_table : DefY := ⟨fun K => He.ga K "_law_table", "_law_table", "_law_table", defArgs s__law_table, defBody s__law_table, defScope s__law_table⟩
def df_Form_places : DefY := ⟨fun K => pgA K "Form" "places", "places", "Form.places", defArgs s_Form_places, defBody s_Form_places, defScope s_Form_places⟩
def df_check_point : DefY := ⟨fun K => He.ga K "check_point", "check_point", "check_point", defArgs s_check_point, defBody s_check_point, defScope s_check_point⟩
def df_product_of : DefY := ⟨fun K => He.ga K "product_of", "product_of", "product_of", defArgs s_product_of, defBody s_product_of, defScope s_product_of⟩
def df__law_rows : DefY := ⟨fun K => He.ga K "_law_rows", "_law_rows", "_law_rows", defArgs s__law_rows, defBody s__law_rows, defScope s__law_rows⟩
def df__law_made : DefY := ⟨fun K => He.ga K "_law_made", "_law_made", "_law_made", defArgs s__law_made, defBody s__law_made, defScope s__law_made⟩
def df__law_point : DefY := ⟨fun K => He.ga K "_law_point", "_law_point", "_law_point", defArgs s__law_point, defBody s__law_point, defScope s__law_point⟩
def df_Form_product : DefY := ⟨fun K => He.ma K (He.ga K "Form") "product", "product", "Form.product", defArgs s_Form_product, defBody s_Form_product, defScope s_Form_product⟩
def df_Form_value : DefY := ⟨fun K => He.ma K (He.ga K "Form") "value", "value", "Form.value", defArgs s_Form_value, defBody s_Form_value, defScope s_Form_value⟩
def df__law_times : DefY := ⟨fun K => He.ga K "_law_times", "_law_times", "_law_times", defArgs s__law_times, defBody s__law_times, defScope s__law_times⟩
def df__law_right : DefY := ⟨fun K => He.ga K "_law_right", "_law_right", "_law_right", defArgs s__law_right, defBody s__law_right, defScope s__law_right⟩
def df__law_jar : DefY := ⟨fun K => He.ga K "_law_jar", "_law_jar", "_law_jar", defArgs s__law_jar, defBody s__law_jar, defScope s__law_jar⟩
def df_law : DefY := ⟨fun K => He.ga K "law", "law", "law", defArgs s_law, defBody s_law, defScope s_law⟩
def fnL : List DefY := [df__law_dip, df__law_det, df__law_square_rows, df__law_spun, df__law_one_of, df__law_greatest, df__law_is_sure, df_is_integer, df_is_between, df_is_row, df_determinant_of, df_corner_of, df_table_until, df_is_sure, df_Form___init__, df__law_table, df_Form_places, df_check_point, df_product_of, df__law_rows, df__law_made, df__law_point, df_Form_product, df_Form_value, df__law_times, df__law_right, df__law_jar, df_law]
def faL : List FaY := [(fun K => (He.Fa.free "len").ok K), (fun K => (He.Fa.free "range").ok K), (fun K => (He.Fa.free "divmod").ok K), (fun K => (He.Fa.free "int").ok K), (fun K => (He.Fa.free "list").ok K), (fun K => (He.Fa.free "all").ok K), (fun K => (He.Fa.free "max").ok K), (fun K => (He.Fa.free "abs").ok K), (fun K => (He.Fa.free "isinstance").ok K), (fun K => (He.Fa.free "bool").ok K), (fun K => (He.Fa.free "tuple").ok K), (fun K => (He.Fa.free "enumerate").ok K), (fun K => (He.Fa.free "sum").ok K), (fun K => (He.Fa.free "zip").ok K), (fun K => (He.Fa.free "repr").ok K), (fun K => (He.Fa.free "min").ok K), (fun K => (He.Fa.int "MOST_ENTRY" 1000).ok K), (fun K => (He.Fa.int "MOST_PLACES" 5).ok K), (fun K => (He.Fa.glo "_law_dip").ok K), (fun K => (He.Fa.glo "_law_det").ok K), (fun K => (He.Fa.glo "_law_square_rows").ok K), (fun K => (He.Fa.glo "_law_spun").ok K), (fun K => (He.Fa.glo "_law_one_of").ok K), (fun K => (He.Fa.glo "_law_greatest").ok K), (fun K => (He.Fa.glo "_law_is_sure").ok K), (fun K => (He.Fa.glo "is_integer").ok K), (fun K => (He.Fa.glo "is_between").ok K), (fun K => (He.Fa.glo "is_row").ok K), (fun K => (He.Fa.glo "determinant_of").ok K), (fun K => (He.Fa.glo "corner_of").ok K), (fun K => (He.Fa.glo "table_until").ok K), (fun K => (He.Fa.glo "is_sure").ok K), (fun K => (He.Fa.glo "_law_table").ok K), (fun K => (He.Fa.glo "check_point").ok K), (fun K => (He.Fa.glo "product_of").ok K), (fun K => (He.Fa.glo "_law_rows").ok K), (fun K => (He.Fa.glo "_law_made").ok K), (fun K => (He.Fa.glo "_law_point").ok K), (fun K => (He.Fa.glo "_law_times").ok K), (fun K => (He.Fa.glo "_law_right").ok K), (fun K => (He.Fa.glo "_law_jar").ok K), (fun K => (He.Fa.glo "law").ok K), (fun K => (He.Fa.glo "Form").ok K), (fun K => (He.Fa.cls "Form").ok K), (fun K => (He.Fa.noat "Form" "rows").ok K), (fun K => (He.Fa.noat "Form" "total").ok K), (propB "Form" "places"), (fun K => (He.Fa.meth "Form" "product").ok K), (fun K => (He.Fa.meth "Form" "value").ok K), (fun K => (He.Fa.mkr "Form").ok K)]
def tsL : List TabI := []
abbrev RO : PySem.W.OpenRow := PySem.W.OpenLaw.row PySem.Challenge.rw_fifteenforms_k05_whole_values
abbrev hkL : PySem.W.Hook := hookY 6 faL fnL tsL
def obL (s : PySem.W.SharedT) : AlY := obsYG 6 faL fnL tsL (HandSHeadRun.getT s)
theorem obL_eq (s : PySem.W.SharedT) : obL s = hkL.obs s.abs := obsYG_eq (HandSHeadRun.getT_eq s)
abbrev looseL : List Str := [("_wall" : Str), ("WrongValue" : Str), ("InvalidText" : Str), ("InvalidTable" : Str), ("InvalidPoint" : Str), ("NoAnswer" : Str), ("NotSure" : Str), ("DIGITS" : Str), ("is_integer" : Str), ("is_between" : Str), ("number_in" : Str), ("integer_in" : Str), ("MOST_PLACES" : Str), ("MOST_ENTRY" : Str), ("determinant_of" : Str), ("corner_of" : Str), ("is_sure" : Str), ("is_row" : Str), ("table_until" : Str), ("product_of" : Str), ("table_in" : Str), ("form_with" : Str), ("Form" : Str), ("check_point" : Str), ("_law_dip" : Str), ("_law_one_of" : Str), ("_law_square_rows" : Str), ("_law_spun" : Str), ("_law_greatest" : Str), ("_law_det" : Str), ("_law_is_sure" : Str), ("_law_rows" : Str), ("_law_table" : Str), ("_law_made" : Str), ("_law_times" : Str), ("_law_jar" : Str), ("_law_point" : Str), ("_law_right" : Str)]
theorem runL (w : World) : HandSHeadRun.RunEq RO (PySem.W.view RO.prog [42]) hkL obL 4000 looseL w := by
  intro os
  kernel_rfl
noncomputable def mkFx {K : PySem.W.Frag} {h : Heap} {mg : Str → Option Value} (X : K.In h) (G : h.Ns mainGlobals mg) (c : SaysY faL fnL tsL K) : Fx K mg where
  z_len := He.free_ok X G (c.fact 0 (f := (fun K => (He.Fa.free "len").ok K)) rfl)
  z_range := He.free_ok X G (c.fact 1 (f := (fun K => (He.Fa.free "range").ok K)) rfl)
  z_divmod := He.free_ok X G (c.fact 2 (f := (fun K => (He.Fa.free "divmod").ok K)) rfl)
  z_int := He.free_ok X G (c.fact 3 (f := (fun K => (He.Fa.free "int").ok K)) rfl)
  z_list := He.free_ok X G (c.fact 4 (f := (fun K => (He.Fa.free "list").ok K)) rfl)
  z_all := He.free_ok X G (c.fact 5 (f := (fun K => (He.Fa.free "all").ok K)) rfl)
  z_max := He.free_ok X G (c.fact 6 (f := (fun K => (He.Fa.free "max").ok K)) rfl)
  z_abs := He.free_ok X G (c.fact 7 (f := (fun K => (He.Fa.free "abs").ok K)) rfl)
  z_isinstance := He.free_ok X G (c.fact 8 (f := (fun K => (He.Fa.free "isinstance").ok K)) rfl)
  z_bool := He.free_ok X G (c.fact 9 (f := (fun K => (He.Fa.free "bool").ok K)) rfl)
  z_tuple := He.free_ok X G (c.fact 10 (f := (fun K => (He.Fa.free "tuple").ok K)) rfl)
  z_enumerate := He.free_ok X G (c.fact 11 (f := (fun K => (He.Fa.free "enumerate").ok K)) rfl)
  z_sum := He.free_ok X G (c.fact 12 (f := (fun K => (He.Fa.free "sum").ok K)) rfl)
  z_zip := He.free_ok X G (c.fact 13 (f := (fun K => (He.Fa.free "zip").ok K)) rfl)
  z_repr := He.free_ok X G (c.fact 14 (f := (fun K => (He.Fa.free "repr").ok K)) rfl)
  z_min := He.free_ok X G (c.fact 15 (f := (fun K => (He.Fa.free "min").ok K)) rfl)
  u_MOST_ENTRY := .int 1000 (Classical.choose (He.int_ok X G (c.fact 16 (f := (fun K => (He.Fa.int "MOST_ENTRY" 1000).ok K)) rfl)))
  c_MOST_ENTRY := Classical.choose_spec (He.int_ok X G (c.fact 16 (f := (fun K => (He.Fa.int "MOST_ENTRY" 1000).ok K)) rfl))
  r_MOST_ENTRY := ⟨_, rfl⟩
  u_MOST_PLACES := .int 5 (Classical.choose (He.int_ok X G (c.fact 17 (f := (fun K => (He.Fa.int "MOST_PLACES" 5).ok K)) rfl)))
  c_MOST_PLACES := Classical.choose_spec (He.int_ok X G (c.fact 17 (f := (fun K => (He.Fa.int "MOST_PLACES" 5).ok K)) rfl))
  r_MOST_PLACES := ⟨_, rfl⟩
  a__law_dip := He.ga K "_law_dip"
  d__law_dip := Classical.choose (c.def_ 0 (d := df__law_dip) rfl)
  F__law_dip := Classical.choose_spec (c.def_ 0 (d := df__law_dip) rfl)
  g__law_dip := He.glo_ok X G (c.fact 18 (f := (fun K => (He.Fa.glo "_law_dip").ok K)) rfl)
  a__law_det := He.ga K "_law_det"
  d__law_det := Classical.choose (c.def_ 1 (d := df__law_det) rfl)
  F__law_det := Classical.choose_spec (c.def_ 1 (d := df__law_det) rfl)
  g__law_det := He.glo_ok X G (c.fact 19 (f := (fun K => (He.Fa.glo "_law_det").ok K)) rfl)
  a__law_square_rows := He.ga K "_law_square_rows"
  d__law_square_rows := Classical.choose (c.def_ 2 (d := df__law_square_rows) rfl)
  F__law_square_rows := Classical.choose_spec (c.def_ 2 (d := df__law_square_rows) rfl)
  g__law_square_rows := He.glo_ok X G (c.fact 20 (f := (fun K => (He.Fa.glo "_law_square_rows").ok K)) rfl)
  a__law_spun := He.ga K "_law_spun"
  d__law_spun := Classical.choose (c.def_ 3 (d := df__law_spun) rfl)
  F__law_spun := Classical.choose_spec (c.def_ 3 (d := df__law_spun) rfl)
  g__law_spun := He.glo_ok X G (c.fact 21 (f := (fun K => (He.Fa.glo "_law_spun").ok K)) rfl)
  a__law_one_of := He.ga K "_law_one_of"
  d__law_one_of := Classical.choose (c.def_ 4 (d := df__law_one_of) rfl)
  F__law_one_of := Classical.choose_spec (c.def_ 4 (d := df__law_one_of) rfl)
  g__law_one_of := He.glo_ok X G (c.fact 22 (f := (fun K => (He.Fa.glo "_law_one_of").ok K)) rfl)
  a__law_greatest := He.ga K "_law_greatest"
  d__law_greatest := Classical.choose (c.def_ 5 (d := df__law_greatest) rfl)
  F__law_greatest := Classical.choose_spec (c.def_ 5 (d := df__law_greatest) rfl)
  g__law_greatest := He.glo_ok X G (c.fact 23 (f := (fun K => (He.Fa.glo "_law_greatest").ok K)) rfl)
  a__law_is_sure := He.ga K "_law_is_sure"
  d__law_is_sure := Classical.choose (c.def_ 6 (d := df__law_is_sure) rfl)
  F__law_is_sure := Classical.choose_spec (c.def_ 6 (d := df__law_is_sure) rfl)
  g__law_is_sure := He.glo_ok X G (c.fact 24 (f := (fun K => (He.Fa.glo "_law_is_sure").ok K)) rfl)
  a_is_integer := He.ga K "is_integer"
  d_is_integer := Classical.choose (c.def_ 7 (d := df_is_integer) rfl)
  F_is_integer := Classical.choose_spec (c.def_ 7 (d := df_is_integer) rfl)
  g_is_integer := He.glo_ok X G (c.fact 25 (f := (fun K => (He.Fa.glo "is_integer").ok K)) rfl)
  a_is_between := He.ga K "is_between"
  d_is_between := Classical.choose (c.def_ 8 (d := df_is_between) rfl)
  F_is_between := Classical.choose_spec (c.def_ 8 (d := df_is_between) rfl)
  g_is_between := He.glo_ok X G (c.fact 26 (f := (fun K => (He.Fa.glo "is_between").ok K)) rfl)
  a_is_row := He.ga K "is_row"
  d_is_row := Classical.choose (c.def_ 9 (d := df_is_row) rfl)
  F_is_row := Classical.choose_spec (c.def_ 9 (d := df_is_row) rfl)
  g_is_row := He.glo_ok X G (c.fact 27 (f := (fun K => (He.Fa.glo "is_row").ok K)) rfl)
  a_determinant_of := He.ga K "determinant_of"
  d_determinant_of := Classical.choose (c.def_ 10 (d := df_determinant_of) rfl)
  F_determinant_of := Classical.choose_spec (c.def_ 10 (d := df_determinant_of) rfl)
  g_determinant_of := He.glo_ok X G (c.fact 28 (f := (fun K => (He.Fa.glo "determinant_of").ok K)) rfl)
  a_corner_of := He.ga K "corner_of"
  d_corner_of := Classical.choose (c.def_ 11 (d := df_corner_of) rfl)
  F_corner_of := Classical.choose_spec (c.def_ 11 (d := df_corner_of) rfl)
  g_corner_of := He.glo_ok X G (c.fact 29 (f := (fun K => (He.Fa.glo "corner_of").ok K)) rfl)
  a_table_until := He.ga K "table_until"
  d_table_until := Classical.choose (c.def_ 12 (d := df_table_until) rfl)
  F_table_until := Classical.choose_spec (c.def_ 12 (d := df_table_until) rfl)
  g_table_until := He.glo_ok X G (c.fact 30 (f := (fun K => (He.Fa.glo "table_until").ok K)) rfl)
  a_is_sure := He.ga K "is_sure"
  d_is_sure := Classical.choose (c.def_ 13 (d := df_is_sure) rfl)
  F_is_sure := Classical.choose_spec (c.def_ 13 (d := df_is_sure) rfl)
  g_is_sure := He.glo_ok X G (c.fact 31 (f := (fun K => (He.Fa.glo "is_sure").ok K)) rfl)
  a_Form___init__ := He.ma K (He.ga K "Form") "__init__"
  d_Form___init__ := Classical.choose (c.def_ 14 (d := df_Form___init__) rfl)
  F_Form___init__ := Classical.choose_spec (c.def_ 14 (d := df_Form___init__) rfl)
  a__law_table := He.ga K "_law_table"
  d__law_table := Classical.choose (c.def_ 15 (d := df__law_table) rfl)
  F__law_table := Classical.choose_spec (c.def_ 15 (d := df__law_table) rfl)
  g__law_table := He.glo_ok X G (c.fact 32 (f := (fun K => (He.Fa.glo "_law_table").ok K)) rfl)
  a_Form_places := pgA K "Form" "places"
  d_Form_places := Classical.choose (c.def_ 16 (d := df_Form_places) rfl)
  F_Form_places := Classical.choose_spec (c.def_ 16 (d := df_Form_places) rfl)
  a_check_point := He.ga K "check_point"
  d_check_point := Classical.choose (c.def_ 17 (d := df_check_point) rfl)
  F_check_point := Classical.choose_spec (c.def_ 17 (d := df_check_point) rfl)
  g_check_point := He.glo_ok X G (c.fact 33 (f := (fun K => (He.Fa.glo "check_point").ok K)) rfl)
  a_product_of := He.ga K "product_of"
  d_product_of := Classical.choose (c.def_ 18 (d := df_product_of) rfl)
  F_product_of := Classical.choose_spec (c.def_ 18 (d := df_product_of) rfl)
  g_product_of := He.glo_ok X G (c.fact 34 (f := (fun K => (He.Fa.glo "product_of").ok K)) rfl)
  a__law_rows := He.ga K "_law_rows"
  d__law_rows := Classical.choose (c.def_ 19 (d := df__law_rows) rfl)
  F__law_rows := Classical.choose_spec (c.def_ 19 (d := df__law_rows) rfl)
  g__law_rows := He.glo_ok X G (c.fact 35 (f := (fun K => (He.Fa.glo "_law_rows").ok K)) rfl)
  a__law_made := He.ga K "_law_made"
  d__law_made := Classical.choose (c.def_ 20 (d := df__law_made) rfl)
  F__law_made := Classical.choose_spec (c.def_ 20 (d := df__law_made) rfl)
  g__law_made := He.glo_ok X G (c.fact 36 (f := (fun K => (He.Fa.glo "_law_made").ok K)) rfl)
  a__law_point := He.ga K "_law_point"
  d__law_point := Classical.choose (c.def_ 21 (d := df__law_point) rfl)
  F__law_point := Classical.choose_spec (c.def_ 21 (d := df__law_point) rfl)
  g__law_point := He.glo_ok X G (c.fact 37 (f := (fun K => (He.Fa.glo "_law_point").ok K)) rfl)
  a_Form_product := He.ma K (He.ga K "Form") "product"
  d_Form_product := Classical.choose (c.def_ 22 (d := df_Form_product) rfl)
  F_Form_product := Classical.choose_spec (c.def_ 22 (d := df_Form_product) rfl)
  a_Form_value := He.ma K (He.ga K "Form") "value"
  d_Form_value := Classical.choose (c.def_ 23 (d := df_Form_value) rfl)
  F_Form_value := Classical.choose_spec (c.def_ 23 (d := df_Form_value) rfl)
  a__law_times := He.ga K "_law_times"
  d__law_times := Classical.choose (c.def_ 24 (d := df__law_times) rfl)
  F__law_times := Classical.choose_spec (c.def_ 24 (d := df__law_times) rfl)
  g__law_times := He.glo_ok X G (c.fact 38 (f := (fun K => (He.Fa.glo "_law_times").ok K)) rfl)
  a__law_right := He.ga K "_law_right"
  d__law_right := Classical.choose (c.def_ 25 (d := df__law_right) rfl)
  F__law_right := Classical.choose_spec (c.def_ 25 (d := df__law_right) rfl)
  g__law_right := He.glo_ok X G (c.fact 39 (f := (fun K => (He.Fa.glo "_law_right").ok K)) rfl)
  a__law_jar := He.ga K "_law_jar"
  d__law_jar := Classical.choose (c.def_ 26 (d := df__law_jar) rfl)
  F__law_jar := Classical.choose_spec (c.def_ 26 (d := df__law_jar) rfl)
  g__law_jar := He.glo_ok X G (c.fact 40 (f := (fun K => (He.Fa.glo "_law_jar").ok K)) rfl)
  a_law := He.ga K "law"
  d_law := Classical.choose (c.def_ 27 (d := df_law) rfl)
  F_law := Classical.choose_spec (c.def_ 27 (d := df_law) rfl)
  g_law := He.glo_ok X G (c.fact 41 (f := (fun K => (He.Fa.glo "law").ok K)) rfl)
  a_Form := He.ga K "Form"
  g_Form := He.glo_ok X G (c.fact 42 (f := (fun K => (He.Fa.glo "Form").ok K)) rfl)
  C_Form := He.cls_ok (c.fact 43 (f := (fun K => (He.Fa.cls "Form").ok K)) rfl)
  fl_Form_rows := fld_ok X G (c.fact 42 (f := (fun K => (He.Fa.glo "Form").ok K)) rfl) (c.fact 43 (f := (fun K => (He.Fa.cls "Form").ok K)) rfl) (c.fact 44 (f := (fun K => (He.Fa.noat "Form" "rows").ok K)) rfl)
  fl_Form_total := fld_ok X G (c.fact 42 (f := (fun K => (He.Fa.glo "Form").ok K)) rfl) (c.fact 43 (f := (fun K => (He.Fa.cls "Form").ok K)) rfl) (c.fact 45 (f := (fun K => (He.Fa.noat "Form" "total").ok K)) rfl)
  p_Form_places := He.ma K (He.ga K "Form") "places"
  P_Form_places := prop_ok (c.fact 46 (f := (propB "Form" "places")) rfl)
  M_Form_product := He.meth_ok (c.fact 47 (f := (fun K => (He.Fa.meth "Form" "product").ok K)) rfl)
  M_Form_value := He.meth_ok (c.fact 48 (f := (fun K => (He.Fa.meth "Form" "value").ok K)) rfl)
  M_Form := He.mkr_ok (c.fact 49 (f := (fun K => (He.Fa.mkr "Form").ok K)) rfl)
end K05
open PySem PySem.W PySem.Calls PyProof.Rows
theorem K05.holds_of (hres : ∀ ns : List Int, ns.length ≤ 63 → ∃ S', Tv.Mon.run (K05.m_law [.scr (ns.map .int)]) [] = (.ok (.bl true), S')) : PySem.Challenge.rw_fifteenforms_k05_whole_values.Holds := by
  w_on; o_law
  refine HandSHeadRun.head_any (r := OpenLaw.row PySem.Challenge.rw_fifteenforms_k05_whole_values) (q := view (OpenLaw.row PySem.Challenge.rw_fifteenforms_k05_whole_values).prog [42]) (H := K05.hkL) (ob := K05.obL) (M := 4000) (loose := K05.looseL) (d := HandSHeadRun.topDef (OpenLaw.row PySem.Challenge.rw_fifteenforms_k05_whole_values).prog 42) (kwd := []) K05.obL_eq
    (by kernel_rfl) (fun s => by kernel_rfl) K05.runL (by kernel_rfl) (by kernel_rfl) (by kernel_rfl) (by rfl) (by first | assumption | decide +kernel) (by decide +kernel) ⟨rfl, rfl, rfl, rfl, rfl, by decide +kernel⟩ ?hw ?hc
  case hw => w_witness2
  case hc =>
    refine Tv.walk_ofG (m := Tv.M) (l := PySem.Challenge.rw_fifteenforms_k05_whole_values) (n := 63) (k := 14) (x := "cells") rfl (by decide) (by kernel_rfl) ⟨rfl, by decide, by decide⟩ ?F
    intro w mg fa h Y G hmg0
    obtain ⟨K, KX, c⟩ := Y
    have T := K05.mkFx KX G c
    have hmg : mg ("law" : PySem.Str) = some (.ref fa) := by
      have e : (HandSHeadRun.topDef (OpenLaw.row PySem.Challenge.rw_fifteenforms_k05_whole_values).prog 42).name = ("law" : PySem.Str) := by kernel_rfl
      rw [← e]
      exact hmg0
    have e2 := hmg.symm.trans T.g_law
    cases e2
    have b := L2.FunD.bindsA (ps := ["cells"]) T.F_law fun _ _ _ _ _ _ us hl => match us, hl with | [_], _ => rfl
    exact ⟨K, T.d_law, K05.m_law, KX, fun s u => b s [u] rfl, hres, fun base _ _ => K05.g_law T⟩

end
open PySem PySem.W PyProof.Rows
theorem PySem.Challenge.cw_fifteenforms_k05_whole_values_holds : PySem.Challenge.rw_fifteenforms_k05_whole_values.Holds :=
  K05.holds_of K05.law_true
