import PyProof.Rows.All
import Wide.All
import OpenK.AllK
import Wide.FinOn
import HandS.ForMost
import HandS.ForExc
import HandS.Wide
import HandS.Flow
import HandS.IsInst
import HandS.Style
import HandS.Defaults
import HandS.CallSlots
import HandS.Zip
import HandS.Small
import HandS.More
import PyProof.ListStr
import HandS.Strs
import HandS.SetKeys
import PyProof.Rows.SetFrom
import HandS.WordsDict
import HandS.TupLen
import HandS.Text
import HandS.RaiseMore
import HandS.SortInts
import HandS.HeadHook2
import HandS.HeadEnd
import HandS.Head2
import PySem.Challenge.RW_rightfrom_k02_numbers_names_and_symbols
set_option Elab.async false
set_option linter.all false
set_option maxRecDepth 100000
set_option maxHeartbeats 0
/-! DVa: data values, what represents them, owned cells, worlds and their growth. -/
namespace DV
open PySem PySem.Spec PyProof.Rows L2

/-- a datum: what a value means, with nothing of addresses; ob i: the i-th thing of the store; cl c: a class or def of the module; kl, kt: a list, a tuple that is only read -/
inductive D where
  | non | bl (b : Bool) | int (i : Int) | str (x : Str) | ty (n : String)
  | lst (xs : List D) | tup (xs : List D) | kl (xs : List D) | kt (xs : List D)
  | dK (kvs : List (Key × D)) | dT (kvs : List (List Key × D))
  | ins (c : Nat) (fs : List (Str × D))
  | ob (i : Nat)
  | cl (c : Nat)
  deriving Inhabited

/-- what a name of the frame, or a thing of the store, holds: a datum that never changes, or a thing of its own -/
inductive Sl where
  | emp
  | val (d : D)
  | lst (xs : List D)
  | dK (kvs : List (Key × D)) | dT (kvs : List (List Key × D))
  | ins (c : Nat) (fs : List (Str × Sl))
  deriving Inhabited

structure Gm where
  K : PySem.W.Frag
  cA : Nat → Addr

section
variable (Γ : Gm) (R : List Addr) (F : Hp)
mutual
def Rep : D → V → Prop
  | .non, v => v = .non
  | .bl b, v => v = .bl b
  | .int i, v => v = .int i
  | .str x, v => v = .str x
  | .ty n, v => v = .ty n
  | .lst xs, v => ∃ a ys, v = .ref a ∧ F a = some (.lst ys) ∧ RepL xs ys
  | .kl xs, v => ∃ a ys, v = .ref a ∧ SqL Γ.K F a ys ∧ RepL xs ys
  | .tup xs, v => ∃ a ys, v = .ref a ∧ F a = some (.tup ys) ∧ RepL xs ys
  | .kt xs, v => ∃ a ys, v = .ref a ∧ SqT Γ.K F a ys ∧ RepL xs ys
  | .dK kvs, v => ∃ a ys, v = .ref a ∧ F a = some (.dK ys) ∧ RepK kvs ys
  | .dT kvs, v => ∃ a ys, v = .ref a ∧ F a = some (.dT ys) ∧ RepT kvs ys
  | .ins c fs, v => ∃ a dx gs, v = .ref a ∧ F a = some (.ins (Γ.cA c) dx gs) ∧ F dx = some (.own a) ∧ RepF fs gs
  | .ob i, v => ∃ a, R[i]? = some a ∧ v = .ref a
  | .cl c, v => v = .ref (Γ.cA c)
def RepL : List D → List V → Prop
  | [], ys => ys = []
  | x :: xs, ys => ∃ y ys', ys = y :: ys' ∧ Rep x y ∧ RepL xs ys'
def RepK : List (Key × D) → List (Key × V) → Prop
  | [], ys => ys = []
  | (k, x) :: xs, ys => ∃ y ys', ys = (k, y) :: ys' ∧ Rep x y ∧ RepK xs ys'
def RepT : List (List Key × D) → List (List Key × V) → Prop
  | [], ys => ys = []
  | (k, x) :: xs, ys => ∃ y ys', ys = (k, y) :: ys' ∧ Rep x y ∧ RepT xs ys'
def RepF : List (Str × D) → List (Str × V) → Prop
  | [], ys => ys = []
  | (k, x) :: xs, ys => ∃ y ys', ys = (k, y) :: ys' ∧ Rep x y ∧ RepF xs ys'
end
abbrev Cells := List (Addr × HO)
mutual
def Own : Sl → V → Cells → Prop
  | .emp, _, _ => False
  | .val d, v, c => c = [] ∧ Rep Γ R F d v
  | .lst xs, v, c => ∃ a ys, v = .ref a ∧ RepL Γ R F xs ys ∧ c = [(a, .lst ys)]
  | .dK kvs, v, c => ∃ a ys, v = .ref a ∧ RepK Γ R F kvs ys ∧ c = [(a, .dK ys)]
  | .dT kvs, v, c => ∃ a ys, v = .ref a ∧ RepT Γ R F kvs ys ∧ c = [(a, .dT ys)]
  | .ins cn fs, v, c => ∃ a dx gs c', v = .ref a ∧ OwnF fs gs c' ∧ c = (a, .ins (Γ.cA cn) dx gs) :: (dx, .own a) :: c'
def OwnF : List (Str × Sl) → List (Str × V) → Cells → Prop
  | [], gs, c => gs = [] ∧ c = []
  | (f, s) :: fs, gs, c => ∃ v gs' c1 c2, gs = (f, v) :: gs' ∧ Own s v c1 ∧ OwnF fs gs' c2 ∧ c = c1 ++ c2
end
/-- a name's slot: nothing is known of an empty one -/
def OwnO : Sl → Option V → Cells → Prop
  | .emp, _, c => c = []
  | s, o, c => ∃ v, o = some v ∧ Own Γ R F s v c
def OwnE : List Sl → List (Option V) → Cells → Prop
  | [], σ, c => σ = [] ∧ c = []
  | s :: ρ, σ, c => ∃ o σ' c1 c2, σ = o :: σ' ∧ OwnO Γ R F s o c1 ∧ OwnE ρ σ' c2 ∧ c = c1 ++ c2
def OwnS : List Sl → List Addr → Cells → Prop
  | [], r, c => r = [] ∧ c = []
  | s :: S, r, c => ∃ a r' c1 c2, r = a :: r' ∧ OwnO Γ R F s (some (.ref a)) c1 ∧ OwnS S r' c2 ∧ c = c1 ++ c2
end

/-! ### growth -/
section
variable {Γ : Gm} {R R' : List Addr} {F F' : Hp}
/-- the roots grow at their end, the frozen heap grows -/
structure Gr (R R' : List Addr) (F F' : Hp) : Prop where
  r : ∃ m, R' = R ++ m
  f : ∀ a o, F a = some o → F' a = some o
theorem Gr.refl : Gr R R F F := ⟨⟨[], by simp⟩, fun _ _ h => h⟩
theorem SqL.up {K : PySem.W.Frag} {a : Addr} {xs : List V} (e : ∀ b o, F b = some o → F' b = some o) (h : SqL K F a xs) : SqL K F' a xs := by
  rcases h with (h | ⟨o, h⟩) | h
  · exact .inl (.inl (e _ _ h))
  · exact .inl (.inr ⟨o, e _ _ h⟩)
  · exact .inr h
theorem SqT.up {K : PySem.W.Frag} {a : Addr} {xs : List V} (e : ∀ b o, F b = some o → F' b = some o) (h : SqT K F a xs) : SqT K F' a xs := by
  rcases h with (h | ⟨o, h⟩) | h
  · exact .inl (.inl (e _ _ h))
  · exact .inl (.inr ⟨o, e _ _ h⟩)
  · exact .inr h
mutual
theorem Rep.up (g : Gr R R' F F') : ∀ (d : D) (v : V), Rep Γ R F d v → Rep Γ R' F' d v
  | .non, v, h => h
  | .bl b, v, h => h
  | .int i, v, h => h
  | .str x, v, h => h
  | .ty n, v, h => h
  | .cl n, v, h => h
  | .lst xs, v, h => by
    rw [Rep] at h ⊢
    obtain ⟨a, ys, e, q, l⟩ := h
    exact ⟨a, ys, e, g.f _ _ q, RepL.up g xs ys l⟩
  | .kl xs, v, h => by
    rw [Rep] at h ⊢
    obtain ⟨a, ys, e, q, l⟩ := h
    exact ⟨a, ys, e, SqL.up g.f q, RepL.up g xs ys l⟩
  | .tup xs, v, h => by
    rw [Rep] at h ⊢
    obtain ⟨a, ys, e, q, l⟩ := h
    exact ⟨a, ys, e, g.f _ _ q, RepL.up g xs ys l⟩
  | .kt xs, v, h => by
    rw [Rep] at h ⊢
    obtain ⟨a, ys, e, q, l⟩ := h
    exact ⟨a, ys, e, SqT.up g.f q, RepL.up g xs ys l⟩
  | .dK xs, v, h => by
    rw [Rep] at h ⊢
    obtain ⟨a, ys, e, q, l⟩ := h
    exact ⟨a, ys, e, g.f _ _ q, RepK.up g xs ys l⟩
  | .dT xs, v, h => by
    rw [Rep] at h ⊢
    obtain ⟨a, ys, e, q, l⟩ := h
    exact ⟨a, ys, e, g.f _ _ q, RepT.up g xs ys l⟩
  | .ins c fs, v, h => by
    rw [Rep] at h ⊢
    obtain ⟨a, dx, gs, e, q, q2, l⟩ := h
    exact ⟨a, dx, gs, e, g.f _ _ q, g.f _ _ q2, RepF.up g fs gs l⟩
  | .ob i, v, h => by
    rw [Rep] at h ⊢
    obtain ⟨a, e, q⟩ := h
    obtain ⟨m, rfl⟩ := g.r
    refine ⟨a, ?_, q⟩
    rw [List.getElem?_append_left (List.getElem?_eq_some_iff.mp e).1]
    exact e
theorem RepL.up (g : Gr R R' F F') : ∀ (xs : List D) (ys : List V), RepL Γ R F xs ys → RepL Γ R' F' xs ys
  | [], ys, h => h
  | x :: xs, ys, h => by
    rw [RepL] at h ⊢
    obtain ⟨y, ys', e, q, l⟩ := h
    exact ⟨y, ys', e, Rep.up g x y q, RepL.up g xs ys' l⟩
theorem RepK.up (g : Gr R R' F F') : ∀ (xs : List (Key × D)) (ys : List (Key × V)), RepK Γ R F xs ys → RepK Γ R' F' xs ys
  | [], ys, h => h
  | (k, x) :: xs, ys, h => by
    rw [RepK] at h ⊢
    obtain ⟨y, ys', e, q, l⟩ := h
    exact ⟨y, ys', e, Rep.up g x y q, RepK.up g xs ys' l⟩
theorem RepT.up (g : Gr R R' F F') : ∀ (xs : List (List Key × D)) (ys : List (List Key × V)), RepT Γ R F xs ys → RepT Γ R' F' xs ys
  | [], ys, h => h
  | (k, x) :: xs, ys, h => by
    rw [RepT] at h ⊢
    obtain ⟨y, ys', e, q, l⟩ := h
    exact ⟨y, ys', e, Rep.up g x y q, RepT.up g xs ys' l⟩
theorem RepF.up (g : Gr R R' F F') : ∀ (xs : List (Str × D)) (ys : List (Str × V)), RepF Γ R F xs ys → RepF Γ R' F' xs ys
  | [], ys, h => h
  | (k, x) :: xs, ys, h => by
    rw [RepF] at h ⊢
    obtain ⟨y, ys', e, q, l⟩ := h
    exact ⟨y, ys', e, Rep.up g x y q, RepF.up g xs ys' l⟩
end
mutual
theorem Own.up (g : Gr R R' F F') : ∀ (s : Sl) (v : V) (c : Cells), Own Γ R F s v c → Own Γ R' F' s v c
  | .emp, v, c, h => h
  | .val d, v, c, h => by
    rw [Own] at h ⊢
    exact ⟨h.1, h.2.up g⟩
  | .lst xs, v, c, h => by
    rw [Own] at h ⊢
    obtain ⟨a, ys, e, q, l⟩ := h
    exact ⟨a, ys, e, q.up g, l⟩
  | .dK xs, v, c, h => by
    rw [Own] at h ⊢
    obtain ⟨a, ys, e, q, l⟩ := h
    exact ⟨a, ys, e, q.up g, l⟩
  | .dT xs, v, c, h => by
    rw [Own] at h ⊢
    obtain ⟨a, ys, e, q, l⟩ := h
    exact ⟨a, ys, e, q.up g, l⟩
  | .ins cn fs, v, c, h => by
    rw [Own] at h ⊢
    obtain ⟨a, dx, gs, c', e, q, l⟩ := h
    exact ⟨a, dx, gs, c', e, OwnF.up g fs gs c' q, l⟩
theorem OwnF.up (g : Gr R R' F F') : ∀ (fs : List (Str × Sl)) (gs : List (Str × V)) (c : Cells), OwnF Γ R F fs gs c → OwnF Γ R' F' fs gs c
  | [], gs, c, h => h
  | (f, s) :: fs, gs, c, h => by
    rw [OwnF] at h ⊢
    obtain ⟨v, gs', c1, c2, e, q, l, e2⟩ := h
    exact ⟨v, gs', c1, c2, e, Own.up g s v c1 q, OwnF.up g fs gs' c2 l, e2⟩
end
theorem OwnO.up (g : Gr R R' F F') {s : Sl} {o : Option V} {c : Cells} (h : OwnO Γ R F s o c) : OwnO Γ R' F' s o c := by
  cases s with
  | emp => exact h
  | val d => obtain ⟨v, e, q⟩ := h; exact ⟨v, e, Own.up g _ _ _ q⟩
  | lst d => obtain ⟨v, e, q⟩ := h; exact ⟨v, e, Own.up g _ _ _ q⟩
  | dK d => obtain ⟨v, e, q⟩ := h; exact ⟨v, e, Own.up g _ _ _ q⟩
  | dT d => obtain ⟨v, e, q⟩ := h; exact ⟨v, e, Own.up g _ _ _ q⟩
  | ins c d => obtain ⟨v, e, q⟩ := h; exact ⟨v, e, Own.up g _ _ _ q⟩
theorem OwnE.up (g : Gr R R' F F') : ∀ {ρ : List Sl} {σ : List (Option V)} {c : Cells}, OwnE Γ R F ρ σ c → OwnE Γ R' F' ρ σ c
  | [], _, _, h => h
  | _ :: _, _, _, ⟨o, σ', c1, c2, e, q, l, e2⟩ => ⟨o, σ', c1, c2, e, q.up g, OwnE.up g l, e2⟩
theorem OwnS.up (g : Gr R R' F F') : ∀ {S : List Sl} {r : List Addr} {c : Cells}, OwnS Γ R F S r c → OwnS Γ R' F' S r c
  | [], _, _, h => h
  | _ :: _, _, _, ⟨o, σ', c1, c2, e, q, l, e2⟩ => ⟨o, σ', c1, c2, e, q.up g, OwnS.up g l, e2⟩
theorem OwnE.length : ∀ {ρ : List Sl} {σ : List (Option V)} {c : Cells}, OwnE Γ R F ρ σ c → ρ.length = σ.length
  | [], _, _, h => by rw [h.1]; rfl
  | _ :: _, _, _, ⟨o, σ', c1, c2, e, q, l, e2⟩ => by rw [e, List.length_cons, List.length_cons, OwnE.length l]
theorem OwnS.length : ∀ {S : List Sl} {r : List Addr} {c : Cells}, OwnS Γ R F S r c → S.length = r.length
  | [], _, _, h => by rw [h.1]; rfl
  | _ :: _, _, _, ⟨o, σ', c1, c2, e, q, l, e2⟩ => by rw [e, List.length_cons, List.length_cons, OwnS.length l]
theorem RepL.length : ∀ {xs : List D} {ys : List V}, RepL Γ R F xs ys → xs.length = ys.length
  | [], _, h => by rw [RepL] at h; rw [h]; rfl
  | _ :: _, _, h => by
    rw [RepL] at h
    obtain ⟨y, ys', e, q, l⟩ := h
    rw [e, List.length_cons, List.length_cons, RepL.length l]
end

/-- an owned cell is no code table -/
def NTc (c : Cells) : Prop := ∀ p ∈ c, ∀ ps, p.2 ≠ .tbl ps
theorem NTc.app {a b : Cells} (h : NTc a) (k : NTc b) : NTc (a ++ b) := fun p hp => (List.mem_append.mp hp).elim (h p) (k p)
section
variable {Γ : Gm} {R : List Addr} {F : Hp}
mutual
theorem Own.nt : ∀ (s : Sl) (v : V) (c : Cells), Own Γ R F s v c → NTc c
  | .emp, v, c, h => by rw [Own] at h; exact h.elim
  | .val d, v, c, h => by rw [Own] at h; rw [h.1]; exact fun p hp => nomatch hp
  | .lst xs, v, c, h => by
    rw [Own] at h
    obtain ⟨a, ys, e, q, l⟩ := h
    subst l
    intro p hp ps e
    simp at hp; subst hp; cases e
  | .dK xs, v, c, h => by
    rw [Own] at h
    obtain ⟨a, ys, e, q, l⟩ := h
    subst l
    intro p hp ps e
    simp at hp; subst hp; cases e
  | .dT xs, v, c, h => by
    rw [Own] at h
    obtain ⟨a, ys, e, q, l⟩ := h
    subst l
    intro p hp ps e
    simp at hp; subst hp; cases e
  | .ins cn fs, v, c, h => by
    rw [Own] at h
    obtain ⟨a, dx, gs, c', e, q, l⟩ := h
    subst l
    intro p hp ps e
    rcases List.mem_cons.mp hp with z | hp
    · subst z; cases e
    rcases List.mem_cons.mp hp with z | hp
    · subst z; cases e
    exact OwnF.nt fs gs c' q p hp ps e
theorem OwnF.nt : ∀ (fs : List (Str × Sl)) (gs : List (Str × V)) (c : Cells), OwnF Γ R F fs gs c → NTc c
  | [], gs, c, h => by rw [OwnF] at h; rw [h.2]; exact fun p hp => nomatch hp
  | (f, s) :: fs, gs, c, h => by
    rw [OwnF] at h
    obtain ⟨v, gs', c1, c2, e, q, l, e2⟩ := h
    subst e2
    exact (Own.nt s v c1 q).app (OwnF.nt fs gs' c2 l)
end
theorem OwnO.nt {s : Sl} {o : Option V} {c : Cells} (h : OwnO Γ R F s o c) : NTc c := by
  cases s with
  | emp => rw [show c = [] from h]; exact fun p hp => nomatch hp
  | val d => obtain ⟨v, e, q⟩ := h; exact Own.nt _ _ _ q
  | lst d => obtain ⟨v, e, q⟩ := h; exact Own.nt _ _ _ q
  | dK d => obtain ⟨v, e, q⟩ := h; exact Own.nt _ _ _ q
  | dT d => obtain ⟨v, e, q⟩ := h; exact Own.nt _ _ _ q
  | ins c d => obtain ⟨v, e, q⟩ := h; exact Own.nt _ _ _ q
theorem OwnE.nt : ∀ {ρ : List Sl} {σ : List (Option V)} {c : Cells}, OwnE Γ R F ρ σ c → NTc c
  | [], _, _, h => by rw [h.2]; exact fun p hp => nomatch hp
  | _ :: _, _, _, ⟨o, σ', c1, c2, e, q, l, e2⟩ => by rw [e2]; exact q.nt.app (OwnE.nt l)
theorem OwnS.nt : ∀ {S : List Sl} {r : List Addr} {c : Cells}, OwnS Γ R F S r c → NTc c
  | [], _, _, h => by rw [h.2]; exact fun p hp => nomatch hp
  | _ :: _, _, _, ⟨o, σ', c1, c2, e, q, l, e2⟩ => by rw [e2]; exact q.nt.app (OwnS.nt l)
end
/-! ### worlds -/
/-- F: what is frozen, E: the cells that the frame's slots own, C: those that the store owns, R: the store's roots, H: the heap -/
structure Wd where
  F : Hp
  E : Cells
  C : Cells
  R : List Addr
  H : Hp
abbrev Wd.ad (w : Wd) : List Addr := (w.E ++ w.C).map (·.1)
structure Good (w : Wd) : Prop where
  sub : ∀ a o, w.F a = some o → w.H a = some o
  cell : ∀ p ∈ w.E ++ w.C, w.H p.1 = some p.2 ∧ w.F p.1 = none
  nd : w.ad.Nodup
/-- what a piece of code may have done: what was frozen stays, what is not its own stays, what is new is new -/
structure Ext (w w' : Wd) : Prop where
  gr : Gr w.R w'.R w.F w'.F
  keep : ∀ a o, w.H a = some o → (∀ ps, o ≠ .tbl ps) → a ∉ w.ad → w'.H a = some o
  tab : ∀ a ps, w.H a = some (.tbl ps) → ∃ more, w'.H a = some (.tbl (ps ++ more))
  cnew : ∀ a, a ∈ w'.ad → a ∈ w.ad ∨ w.H a = none
  fnew : ∀ a o, w'.F a = some o → w.F a = some o ∨ w.H a = none ∨ a ∈ w.ad
  live : ∀ a o, w.H a = some o → ∃ o', w'.H a = some o'
theorem Gr.trans {R R1 R2 : List Addr} {F F1 F2 : Hp} (a : Gr R R1 F F1) (b : Gr R1 R2 F1 F2) : Gr R R2 F F2 := by
  obtain ⟨m, e⟩ := a.r
  obtain ⟨m', e'⟩ := b.r
  exact ⟨⟨m ++ m', by rw [e', e, List.append_assoc]⟩, fun c o h => b.f c o (a.f c o h)⟩
theorem Ext.refl (w : Wd) : Ext w w := ⟨.refl, fun _ _ h _ _ => h, fun _ ps h => ⟨#[], by simpa using h⟩, fun _ h => .inl h, fun _ _ h => .inl h, fun _ o h => ⟨o, h⟩⟩
theorem Ext.none_of {w w' : Wd} (x : Ext w w') {a : Addr} (h : w'.H a = none) : w.H a = none := by
  cases q : w.H a with
  | none => rfl
  | some o =>
    obtain ⟨o', e⟩ := x.live a o q
    rw [h] at e; cases e
theorem Ext.trans {w w1 w2 : Wd} (x : Ext w w1) (y : Ext w1 w2) : Ext w w2 where
  gr := x.gr.trans y.gr
  keep := fun a o h n ha => by
    refine y.keep a o (x.keep a o h n ha) n fun hc => ?_
    rcases x.cnew a hc with z | z
    · exact ha z
    · rw [h] at z; cases z
  tab := fun a ps h => by
    obtain ⟨m, e⟩ := x.tab a ps h
    obtain ⟨m', e'⟩ := y.tab a _ e
    exact ⟨m ++ m', by rw [e', Array.append_assoc]⟩
  cnew := fun a h => by
    rcases y.cnew a h with z | z
    · exact x.cnew a z
    · exact .inr (x.none_of z)
  fnew := fun a o h => by
    rcases y.fnew a o h with z | z | z
    · exact x.fnew a o z
    · exact .inr (.inl (x.none_of z))
    · rcases x.cnew a z with z | z
      · exact .inr (.inr z)
      · exact .inr (.inl z)
  live := fun a o h => by
    obtain ⟨o', e⟩ := x.live a o h
    exact y.live a o' e

/-! ### a thing of its own is frozen -/
mutual
def Sl.frz : Sl → D
  | .emp => .non
  | .val d => d
  | .lst xs => .lst xs
  | .dK xs => .dK xs
  | .dT xs => .dT xs
  | .ins c fs => .ins c (frzF fs)
def frzF : List (Str × Sl) → List (Str × D)
  | [] => []
  | (f, s) :: fs => (f, s.frz) :: frzF fs
end
/-- the frozen heap with some cells more -/
def addC (F : Hp) (c : Cells) : Hp := fun a => match c.find? (fun p => p.1 == a) with
  | some p => some p.2
  | none => F a
theorem addC_of {F : Hp} {c : Cells} {p : Addr × HO} (nd : (c.map (·.1)).Nodup) (hp : p ∈ c) : addC F c p.1 = some p.2 := by
  unfold addC
  have : c.find? (fun q => q.1 == p.1) = some p := by
    induction c with
    | nil => cases hp
    | cons x r ih =>
      rw [List.map_cons, List.nodup_cons] at nd
      rcases List.mem_cons.mp hp with e | e
      · subst e; simp
      · rw [List.find?_cons]
        have hx : (x.1 == p.1) = false := by
          rw [beq_eq_false_iff_ne]
          intro z
          exact nd.1 (z ▸ List.mem_map_of_mem e)
        rw [hx]
        exact ih nd.2 e
  rw [this]
theorem addC_out {F : Hp} {c : Cells} {a : Addr} (h : a ∉ c.map (·.1)) : addC F c a = F a := by
  unfold addC
  have : c.find? (fun p => p.1 == a) = none := by
    rw [List.find?_eq_none]
    intro p hp e
    exact h (by rw [← (beq_iff_eq.mp e)]; exact List.mem_map_of_mem hp)
  rw [this]
theorem addC_cases {F : Hp} {c : Cells} {a : Addr} {o : HO} (h : addC F c a = some o) : (a, o) ∈ c ∨ F a = some o := by
  unfold addC at h
  split at h
  · rename_i p e
    have h1 := List.mem_of_find?_eq_some e
    have h2 := List.find?_some e
    have h2 : p.1 = a := beq_iff_eq.mp h2
    cases h
    subst h2
    exact .inl h1
  · exact .inr h
theorem addC_up {F : Hp} {c : Cells} (h : ∀ p ∈ c, F p.1 = none) : ∀ a o, F a = some o → addC F c a = some o := fun a o e => by
  rw [addC_out, e]
  intro z
  obtain ⟨p, hp, rfl⟩ := List.mem_map.mp z
  rw [h p hp] at e; cases e
section
variable {Γ : Gm} {R : List Addr} {F G : Hp}
mutual
theorem Own.frz (up : ∀ a o, F a = some o → G a = some o) : ∀ (s : Sl) (v : V) (c : Cells), (∀ p ∈ c, G p.1 = some p.2) → Own Γ R F s v c → Rep Γ R G s.frz v
  | .emp, v, c, hc, h => by rw [Own] at h; exact h.elim
  | .val d, v, c, hc, h => by
    rw [Own] at h
    exact Rep.up ⟨⟨[], by simp⟩, up⟩ _ _ h.2
  | .lst xs, v, c, hc, h => by
    rw [Own] at h
    obtain ⟨a, ys, e, q, l⟩ := h
    subst l
    rw [Sl.frz, Rep]
    exact ⟨a, ys, e, hc (a, .lst ys) (by simp), RepL.up ⟨⟨[], by simp⟩, up⟩ _ _ q⟩
  | .dK xs, v, c, hc, h => by
    rw [Own] at h
    obtain ⟨a, ys, e, q, l⟩ := h
    subst l
    rw [Sl.frz, Rep]
    exact ⟨a, ys, e, hc (a, .dK ys) (by simp), RepK.up ⟨⟨[], by simp⟩, up⟩ _ _ q⟩
  | .dT xs, v, c, hc, h => by
    rw [Own] at h
    obtain ⟨a, ys, e, q, l⟩ := h
    subst l
    rw [Sl.frz, Rep]
    exact ⟨a, ys, e, hc (a, .dT ys) (by simp), RepT.up ⟨⟨[], by simp⟩, up⟩ _ _ q⟩
  | .ins cn fs, v, c, hc, h => by
    rw [Own] at h
    obtain ⟨a, dx, gs, c', e, q, l⟩ := h
    subst l
    rw [Sl.frz, Rep]
    exact ⟨a, dx, gs, e, hc (a, _) (by simp), hc (dx, _) (by simp), OwnF.frz up fs gs c' (fun p hp => hc p (by simp [hp])) q⟩
theorem OwnF.frz (up : ∀ a o, F a = some o → G a = some o) : ∀ (fs : List (Str × Sl)) (gs : List (Str × V)) (c : Cells), (∀ p ∈ c, G p.1 = some p.2) → OwnF Γ R F fs gs c → RepF Γ R G (frzF fs) gs
  | [], gs, c, hc, h => by
    rw [OwnF] at h
    rw [frzF, RepF]
    exact h.1
  | (f, s) :: fs, gs, c, hc, h => by
    rw [OwnF] at h
    obtain ⟨v, gs', c1, c2, e, q, l, e2⟩ := h
    subst e2
    rw [frzF, RepF]
    exact ⟨v, gs', e, Own.frz up s v c1 (fun p hp => hc p (by simp [hp])) q, OwnF.frz up fs gs' c2 (fun p hp => hc p (by simp [hp])) l⟩
end
end
end DV

/-! DVb: the relation of a state's data to slots and heap; the readings of expressions and statements by data. -/
namespace DV
open PySem PySem.Spec PyProof.Rows L2

def OwnAll (Γ : Gm) (R : List Addr) (F : Hp) (ρ S : List Sl) (σ : List (Option V)) (E C : Cells) : Prop := OwnE Γ R F ρ σ E ∧ OwnS Γ R F S R C
structure Rel (Γ : Gm) (w : Wd) (ρ S : List Sl) (σ : List (Option V)) : Prop where
  good : Good w
  own : OwnAll Γ w.R w.F ρ S σ w.E w.C
/-- the frozen heap alone has grown -/
theorem OwnAll.up {Γ : Gm} {R : List Addr} {F F' : Hp} {ρ S : List Sl} {σ : List (Option V)} {E C : Cells} (f : ∀ a o, F a = some o → F' a = some o) (h : OwnAll Γ R F ρ S σ E C) : OwnAll Γ R F' ρ S σ E C :=
  ⟨h.1.up ⟨⟨[], by simp⟩, f⟩, h.2.up ⟨⟨[], by simp⟩, f⟩⟩
structure RelS (Γ : Gm) (w : Wd) (S : List Sl) : Prop where
  good : Good w
  noE : w.E = []
  own : OwnS Γ w.R w.F S w.R w.C

/-- what an expression gives: a datum, the frame's own thing at a slot, or a new thing -/
inductive Rv where
  | d (x : D) | env (i : Nat) | fr (s : Sl)
  deriving Inhabited
inductive Exn where
  | own (c : Nat) (fs : List (Str × D)) | blt (n : String)
inductive Res (α : Type) where
  | ok (a : α) (ρ S : List Sl) (t : Bool) | ex (x : Exn) (ρ S : List Sl) | bad
def Res.addt {α : Type} (t : Bool) : Res α → Res α
  | .ok a ρ S t' => .ok a ρ S (t || t')
  | .ex x ρ S => .ex x ρ S
  | .bad => .bad
def Res.bind {α β : Type} (r : Res α) (f : α → List Sl → List Sl → Res β) : Res β :=
  match r with
  | .ok a ρ S t => (f a ρ S).addt t
  | .ex x ρ S => .ex x ρ S
  | .bad => .bad
abbrev M (α : Type) := List Sl → List Sl → Res α
def M.bind {α β : Type} (c : M α) (f : α → M β) : M β := fun ρ S => (c ρ S).bind f
def M.pure {α : Type} (a : α) : M α := fun ρ S => .ok a ρ S false
def M.bad {α : Type} : M α := fun _ _ => .bad

theorem Res.addt_false {α : Type} (r : Res α) : r.addt false = r := by cases r <;> rfl
theorem Res.bind_ok {α β : Type} (a : α) (ρ S : List Sl) (t : Bool) (f : α → List Sl → List Sl → Res β) : (Res.ok a ρ S t).bind f = (f a ρ S).addt t := rfl
theorem Res.bind_ex {α β : Type} (x : Exn) (ρ S : List Sl) (f : α → List Sl → List Sl → Res β) : (Res.ex x ρ S : Res α).bind f = .ex x ρ S := rfl
theorem Res.bind_bad {α β : Type} (f : α → List Sl → List Sl → Res β) : (Res.bad : Res α).bind f = .bad := rfl

/-- cells that nobody else knows -/
structure Fresh (w : Wd) (c : Cells) : Prop where
  at_ : ∀ p ∈ c, w.H p.1 = some p.2 ∧ w.F p.1 = none ∧ p.1 ∉ w.ad ∧ ∀ ps, p.2 ≠ .tbl ps
  nd : (c.map (·.1)).Nodup
/-- w0: the world ahead -/
def RvOk (Γ : Gm) (w0 w : Wd) (σ : List (Option V)) : Rv → V → Prop
  | .d d, v => Rep Γ w.R w.F d v
  | .env i, v => σ[i]? = some (some v)
  | .fr s, v => ∃ c, Own Γ w.R w.F s v c ∧ Fresh w c ∧ ∀ p ∈ c, w0.H p.1 = none ∨ p.1 ∈ w0.ad
theorem Fresh.up {w w' : Wd} {c : Cells} (x : Ext w w') (f : Fresh w c) : Fresh w' c := by
  refine ⟨fun p hp => ?_, f.nd⟩
  obtain ⟨h1, h2, h3, h4⟩ := f.at_ p hp
  refine ⟨x.keep _ _ h1 h4 h3, ?_, fun z => ?_, h4⟩
  · cases q : w'.F p.1 with
    | none => rfl
    | some o =>
      rcases x.fnew _ _ q with z | z | z
      · rw [h2] at z; cases z
      · rw [h1] at z; cases z
      · exact absurd z h3
  · rcases x.cnew _ z with z | z
    · exact h3 z
    · rw [h1] at z; cases z
theorem RvOk.up {Γ : Gm} {w0 w w' : Wd} {σ : List (Option V)} (x : Ext w w') : ∀ {r : Rv} {v : V}, RvOk Γ w0 w σ r v → RvOk Γ w0 w' σ r v
  | .d _, _, h => Rep.up x.gr _ _ h
  | .env _, _, h => h
  | .fr _, _, ⟨c, o, f, b⟩ => ⟨c, Own.up x.gr _ _ _ o, f.up x, b⟩
theorem RvOk.base {Γ : Gm} {w0 w1 w : Wd} {σ : List (Option V)} (x : Ext w0 w1) : ∀ {r : Rv} {v : V}, RvOk Γ w1 w σ r v → RvOk Γ w0 w σ r v
  | .d _, _, h => h
  | .env _, _, h => h
  | .fr _, _, ⟨c, o, f, b⟩ => ⟨c, o, f, fun p hp => by
    rcases b p hp with z | z
    · exact .inl (x.none_of z)
    · rcases x.cnew _ z with z | z
      · exact .inr z
      · exact .inl z⟩
def XOk (Γ : Gm) (w : Wd) : Exn → Value → Option Addr → Prop
  | .own c fs, cls, d => cls = .ref (Γ.cA c) ∧ ∃ dd gs, d = some dd ∧ w.F dd = some (.xd gs) ∧ RepF Γ w.R w.F fs gs
  | .blt n, cls, _ => cls = .type n

/-! ### the readings -/
section
variable (Γ : Gm) (W : WX)
/-- what an outcome owes -/
def CK (w : Wd) (σ : L2.St) (Q : VK) : Res Rv → Prop
  | .ok r ρ' S' t => ∀ w' v, Ext w w' → (t = false → w'.E = w.E) → Rel Γ w' ρ' S' σ → RvOk Γ w w' σ r v → Q v w'.H
  | .ex x ρ' S' => ∀ w' cls d, Ext w w' → Rel Γ w' ρ' S' σ → XOk Γ w' x cls d → W cls d σ w'.H
  | .bad => False
def tM (c : M Rv) : TE := fun σ H Q => ∃ F E C R ρ S, Rel Γ ⟨F, E, C, R, H⟩ ρ S σ ∧ CK Γ W ⟨F, E, C, R, H⟩ σ Q (c ρ S)
/-- of data -/
def CKd (w : Wd) (σ : L2.St) (Q : D → V → Hp → Prop) : Res D → Prop
  | .ok r ρ' S' t => ∀ w' v, Ext w w' → (t = false → w'.E = w.E) → Rel Γ w' ρ' S' σ → Rep Γ w'.R w'.F r v → Q r v w'.H
  | .ex x ρ' S' => ∀ w' cls d, Ext w w' → Rel Γ w' ρ' S' σ → XOk Γ w' x cls d → W cls d σ w'.H
  | .bad => False
def CKb (w : Wd) (σ : L2.St) (Q : Bool → Hp → Prop) : Res Bool → Prop
  | .ok b ρ' S' t => ∀ w', Ext w w' → (t = false → w'.E = w.E) → Rel Γ w' ρ' S' σ → Q b w'.H
  | .ex x ρ' S' => ∀ w' cls d, Ext w w' → Rel Γ w' ρ' S' σ → XOk Γ w' x cls d → W cls d σ w'.H
  | .bad => False
def tMb (c : M Bool) : TT := fun σ H Q => ∃ F E C R ρ S, Rel Γ ⟨F, E, C, R, H⟩ ρ S σ ∧ CKb Γ W ⟨F, E, C, R, H⟩ σ Q (c ρ S)
/-- argument lists: data all -/
def CKl (w : Wd) (σ : L2.St) (Q : List V → Hp → Prop) : Res (List D) → Prop
  | .ok ds ρ' S' t => ∀ w' vs, Ext w w' → (t = false → w'.E = w.E) → Rel Γ w' ρ' S' σ → RepL Γ w'.R w'.F ds vs → Q vs w'.H
  | .ex x ρ' S' => ∀ w' cls d, Ext w w' → Rel Γ w' ρ' S' σ → XOk Γ w' x cls d → W cls d σ w'.H
  | .bad => False
def tMl (c : M (List D)) : TA := fun σ H Q => ∃ F E C R ρ S, Rel Γ ⟨F, E, C, R, H⟩ ρ S σ ∧ CKl Γ W ⟨F, E, C, R, H⟩ σ Q (c ρ S)
end
section
variable {Γ : Gm} {W : WX} {w w' : Wd} {σ : L2.St} {Q : VK}
theorem CK.ext {t : Bool} {r : Res Rv} (x : Ext w w') (e : t = false → w'.E = w.E) (h : CK Γ W w σ Q (r.addt t)) : CK Γ W w' σ Q r := by
  cases r with
  | ok a ρ S t' =>
    refine fun w2 v x2 e2 R2 o2 => h w2 v (x.trans x2) (fun z => ?_) R2 (o2.base x)
    obtain ⟨z1, z2⟩ := Bool.or_eq_false_iff.mp z
    rw [e2 z2, e z1]
  | ex y ρ S => exact fun w2 cls d x2 R2 o2 => h w2 cls d (x.trans x2) R2 o2
  | bad => exact h
theorem CKb.ext {t : Bool} {Q : Bool → Hp → Prop} {r : Res Bool} (x : Ext w w') (e : t = false → w'.E = w.E) (h : CKb Γ W w σ Q (r.addt t)) : CKb Γ W w' σ Q r := by
  cases r with
  | ok a ρ S t' =>
    refine fun w2 x2 e2 R2 => h w2 (x.trans x2) (fun z => ?_) R2
    obtain ⟨z1, z2⟩ := Bool.or_eq_false_iff.mp z
    rw [e2 z2, e z1]
  | ex y ρ S => exact fun w2 cls d x2 R2 o2 => h w2 cls d (x.trans x2) R2 o2
  | bad => exact h
theorem CKl.ext {t : Bool} {Q : List V → Hp → Prop} {r : Res (List D)} (x : Ext w w') (e : t = false → w'.E = w.E) (h : CKl Γ W w σ Q (r.addt t)) : CKl Γ W w' σ Q r := by
  cases r with
  | ok a ρ S t' =>
    refine fun w2 v x2 e2 R2 o2 => h w2 v (x.trans x2) (fun z => ?_) R2 o2
    obtain ⟨z1, z2⟩ := Bool.or_eq_false_iff.mp z
    rw [e2 z2, e z1]
  | ex y ρ S => exact fun w2 cls d x2 R2 o2 => h w2 cls d (x.trans x2) R2 o2
  | bad => exact h
theorem CKd.ext {t : Bool} {Q : D → V → Hp → Prop} {r : Res D} (x : Ext w w') (e : t = false → w'.E = w.E) (h : CKd Γ W w σ Q (r.addt t)) : CKd Γ W w' σ Q r := by
  cases r with
  | ok a ρ S t' =>
    refine fun w2 v x2 e2 R2 o2 => h w2 v (x.trans x2) (fun z => ?_) R2 o2
    obtain ⟨z1, z2⟩ := Bool.or_eq_false_iff.mp z
    rw [e2 z2, e z1]
  | ex y ρ S => exact fun w2 cls d x2 R2 o2 => h w2 cls d (x.trans x2) R2 o2
  | bad => exact h
/-- the first of two -/
theorem CK.bind {r : Res Rv} {f : Rv → List Sl → List Sl → Res Rv} {Q1 : VK} (h : CK Γ W w σ Q (r.bind f))
    (k : ∀ a ρ S w' v, Ext w w' → Rel Γ w' ρ S σ → RvOk Γ w w' σ a v → CK Γ W w' σ Q (f a ρ S) → Q1 v w'.H) : CK Γ W w σ Q1 r := by
  cases r with
  | ok a ρ S t => exact fun w2 v x2 e2 R2 o2 => k a ρ S w2 v x2 R2 o2 (CK.ext x2 e2 h)
  | ex y ρ S => exact h
  | bad => exact h

/-! ### slots -/
theorem OwnO.of_ne {R : List Addr} {F : Hp} {s : Sl} {o : Option V} {c : Cells} (h : OwnO Γ R F s o c) (n : s ≠ .emp) : ∃ v, o = some v ∧ Own Γ R F s v c := by
  cases s with
  | emp => exact absurd rfl n
  | val d => exact h
  | lst d => exact h
  | dK d => exact h
  | dT d => exact h
  | ins c d => exact h
theorem OwnO.mk {R : List Addr} {F : Hp} {s : Sl} {v : V} {c : Cells} (h : Own Γ R F s v c) : OwnO Γ R F s (some v) c := by
  cases s with
  | emp => exact (show False from by rw [Own] at h; exact h).elim
  | val d => exact ⟨v, rfl, h⟩
  | lst d => exact ⟨v, rfl, h⟩
  | dK d => exact ⟨v, rfl, h⟩
  | dT d => exact ⟨v, rfl, h⟩
  | ins c d => exact ⟨v, rfl, h⟩
/-- a slot's cells stand in a row; another thing may be put in its place -/
theorem OwnE.at {R : List Addr} {F : Hp} : ∀ {ρ : List Sl} {σ : L2.St} {c : Cells} {i : Nat} {s : Sl}, OwnE Γ R F ρ σ c → ρ[i]? = some s →
    ∃ o A B b, σ[i]? = some o ∧ c = A ++ b ++ B ∧ OwnO Γ R F s o b ∧ ∀ F', (∀ a o, F a = some o → F' a = some o) → ∀ s' o' b', OwnO Γ R F' s' o' b' → OwnE Γ R F' (ρ.set i s') (σ.set i o') (A ++ b' ++ B)
  | [], _, _, i, _, _, e => by simp at e
  | x :: ρ, σ, c, 0, s, h, e => by
    obtain ⟨o, σ', c1, c2, e1, q, l, e2⟩ := h
    simp at e
    subst e e1 e2
    exact ⟨o, [], c2, c1, by simp, by simp, q, fun F' up s' o' b' z => ⟨o', σ', b', c2, rfl, z, l.up ⟨⟨[], by simp⟩, up⟩, by simp⟩⟩
  | x :: ρ, σ, c, i + 1, s, h, e => by
    obtain ⟨o, σ', c1, c2, e1, q, l, e2⟩ := h
    obtain ⟨o1, A, B, b, h1, h2, h3, h4⟩ := OwnE.at (i := i) l (by simpa using e)
    subst e1 e2 h2
    refine ⟨o1, c1 ++ A, B, b, by simpa using h1, by simp [List.append_assoc], h3, fun F' up s' o' b' z => ?_⟩
    exact ⟨o, σ'.set i o', c1, A ++ b' ++ B, by simp, q.up ⟨⟨[], by simp⟩, up⟩, h4 F' up s' o' b' z, by simp [List.append_assoc]⟩
theorem OwnS.at {R : List Addr} {F : Hp} : ∀ {S : List Sl} {r : List Addr} {c : Cells} {i : Nat} {s : Sl}, OwnS Γ R F S r c → S[i]? = some s →
    ∃ a A B b, r[i]? = some a ∧ c = A ++ b ++ B ∧ OwnO Γ R F s (some (.ref a)) b ∧ ∀ F', (∀ a o, F a = some o → F' a = some o) → ∀ s' b', OwnO Γ R F' s' (some (.ref a)) b' → OwnS Γ R F' (S.set i s') r (A ++ b' ++ B)
  | [], _, _, i, _, _, e => by simp at e
  | x :: S, σ, c, 0, s, h, e => by
    obtain ⟨a, σ', c1, c2, e1, q, l, e2⟩ := h
    simp at e
    subst e e1 e2
    exact ⟨a, [], c2, c1, by simp, by simp, q, fun F' up s' b' z => ⟨a, σ', b', c2, rfl, z, l.up ⟨⟨[], by simp⟩, up⟩, by simp⟩⟩
  | x :: S, σ, c, i + 1, s, h, e => by
    obtain ⟨a, σ', c1, c2, e1, q, l, e2⟩ := h
    obtain ⟨o1, A, B, b, h1, h2, h3, h4⟩ := OwnS.at (i := i) l (by simpa using e)
    subst e1 e2 h2
    refine ⟨o1, c1 ++ A, B, b, by simpa using h1, by simp [List.append_assoc], h3, fun F' up s' b' z => ?_⟩
    exact ⟨a, σ', c1, A ++ b' ++ B, by simp, q.up ⟨⟨[], by simp⟩, up⟩, h4 F' up s' b' z, by simp [List.append_assoc]⟩

/-! ### what is read of a value: its top may be owned, what is within is frozen -/
def Top (Γ : Gm) (w : Wd) : D → V → Prop
  | .lst xs, v => ∃ a ys, v = .ref a ∧ w.H a = some (.lst ys) ∧ RepL Γ w.R w.F xs ys
  | .dK xs, v => ∃ a ys, v = .ref a ∧ w.H a = some (.dK ys) ∧ RepK Γ w.R w.F xs ys
  | .dT xs, v => ∃ a ys, v = .ref a ∧ w.H a = some (.dT ys) ∧ RepT Γ w.R w.F xs ys
  | d, v => Rep Γ w.R w.F d v
theorem Rep.top (g : Good w) : ∀ {d : D} {v : V}, Rep Γ w.R w.F d v → Top Γ w d v
  | .non, _, h => h
  | .bl _, _, h => h
  | .int _, _, h => h
  | .str _, _, h => h
  | .ty _, _, h => h
  | .ins _ _, _, h => h
  | .ob _, _, h => h
  | .cl _, _, h => h
  | .lst xs, v, h => by
    rw [Rep] at h
    obtain ⟨a, ys, e, q, l⟩ := h
    exact ⟨a, ys, e, g.sub _ _ q, l⟩
  | .kl _, _, h => h
  | .kt _, _, h => h
  | .tup _, _, h => h
  | .dK xs, v, h => by
    rw [Rep] at h
    obtain ⟨a, ys, e, q, l⟩ := h
    exact ⟨a, ys, e, g.sub _ _ q, l⟩
  | .dT xs, v, h => by
    rw [Rep] at h
    obtain ⟨a, ys, e, q, l⟩ := h
    exact ⟨a, ys, e, g.sub _ _ q, l⟩
/-- an owned thing's content, as a datum -/
def Sl.rd : Sl → Option D
  | .emp => none
  | .val d => some d
  | .lst xs => some (.lst xs)
  | .dK xs => some (.dK xs)
  | .dT xs => some (.dT xs)
  | .ins _ _ => none
def cont (ρ S : List Sl) : Rv → Option D
  | .d (.ob j) => match S[j]? with
    | some (.lst xs) => some (.lst xs)
    | some (.dK xs) => some (.dK xs)
    | some (.dT xs) => some (.dT xs)
    | _ => some (.ob j)
  | .d d => some d
  | .env i => (ρ[i]?).bind Sl.rd
  | .fr s => s.rd
theorem Own.top {s : Sl} {v : V} {c : Cells} {d : D} (g : Good w) (hc : ∀ p ∈ c, w.H p.1 = some p.2) (h : Own Γ w.R w.F s v c) (e : s.rd = some d) : Top Γ w d v := by
  cases s with
  | emp => cases e
  | val x => rw [Own] at h; cases e; exact h.2.top g
  | lst xs =>
    rw [Own] at h
    obtain ⟨a, ys, e1, q, l⟩ := h
    subst l
    cases e
    exact ⟨a, ys, e1, hc (a, _) (by simp), q⟩
  | dK xs =>
    rw [Own] at h
    obtain ⟨a, ys, e1, q, l⟩ := h
    subst l
    cases e
    exact ⟨a, ys, e1, hc (a, _) (by simp), q⟩
  | dT xs =>
    rw [Own] at h
    obtain ⟨a, ys, e1, q, l⟩ := h
    subst l
    cases e
    exact ⟨a, ys, e1, hc (a, _) (by simp), q⟩
  | ins _ _ => cases e
theorem OwnAll.env_at {R : List Addr} {F : Hp} {E C : Cells} {ρ S : List Sl} {i : Nat} {s : Sl} (h : OwnAll Γ R F ρ S σ E C) (e : ρ[i]? = some s) : ∃ o A B b, σ[i]? = some o ∧ E = A ++ b ++ B ∧ OwnO Γ R F s o b ∧
    ∀ F', (∀ a o, F a = some o → F' a = some o) → ∀ s' o' b', OwnO Γ R F' s' o' b' → OwnAll Γ R F' (ρ.set i s') S (σ.set i o') (A ++ b' ++ B) C := by
  obtain ⟨o, A, B, b, h1, h2, h3, h4⟩ := h.1.at e
  exact ⟨o, A, B, b, h1, h2, h3, fun F' up s' o' b' z => ⟨h4 F' up s' o' b' z, h.2.up ⟨⟨[], by simp⟩, up⟩⟩⟩
theorem OwnAll.sto_at {R : List Addr} {F : Hp} {E C : Cells} {ρ S : List Sl} {i : Nat} {s : Sl} (h : OwnAll Γ R F ρ S σ E C) (e : S[i]? = some s) : ∃ a A B b, R[i]? = some a ∧ C = A ++ b ++ B ∧ OwnO Γ R F s (some (.ref a)) b ∧
    ∀ F', (∀ a o, F a = some o → F' a = some o) → ∀ s' b', OwnO Γ R F' s' (some (.ref a)) b' → OwnAll Γ R F' ρ (S.set i s') σ E (A ++ b' ++ B) := by
  obtain ⟨a, A, B, b, h1, h2, h3, h4⟩ := h.2.at e
  exact ⟨a, A, B, b, h1, h2, h3, fun F' up s' b' z => ⟨h.1.up ⟨⟨[], by simp⟩, up⟩, h4 F' up s' b' z⟩⟩
theorem Rel.cellsE {ρ S : List Sl} {A b B : Cells} (h : Rel Γ w ρ S σ) (e : w.E = A ++ b ++ B) : ∀ p ∈ b, w.H p.1 = some p.2 := fun p hp => (h.good.cell p (by rw [e]; simp [hp])).1
theorem Rel.cellsH {ρ S : List Sl} {A b B : Cells} (h : Rel Γ w ρ S σ) (e : w.C = A ++ b ++ B) : ∀ p ∈ b, w.H p.1 = some p.2 := fun p hp => (h.good.cell p (by rw [e]; simp [hp])).1
theorem Rel.top {ρ S : List Sl} {r : Rv} {v : V} {d : D} {w0 : Wd} (h : Rel Γ w ρ S σ) (o : RvOk Γ w0 w σ r v) (e : cont ρ S r = some d) : Top Γ w d v := by
  cases r with
  | d x =>
    have plain : cont ρ S (.d x) = some x → Top Γ w d v := fun z => by
      rw [z] at e; cases e
      exact Rep.top h.good o
    cases x with
    | ob j =>
      cases q : S[j]? with
      | none => exact plain (by simp only [cont, q])
      | some s =>
        obtain ⟨a, A, B, b, h1, h2, h3, _⟩ := h.own.sto_at q
        have o' : Rep Γ w.R w.F (.ob j) v := o
        rw [Rep] at o'
        obtain ⟨a', e1, e2⟩ := o'
        rw [h1] at e1; cases e1
        subst e2
        cases s with
        | lst xs =>
          simp only [cont, q] at e
          obtain ⟨v, ev, ow⟩ := h3
          cases ev
          exact Own.top h.good (h.cellsH h2) ow e
        | dK xs =>
          simp only [cont, q] at e
          obtain ⟨v, ev, ow⟩ := h3
          cases ev
          exact Own.top h.good (h.cellsH h2) ow e
        | dT xs =>
          simp only [cont, q] at e
          obtain ⟨v, ev, ow⟩ := h3
          cases ev
          exact Own.top h.good (h.cellsH h2) ow e
        | emp => exact plain (by simp only [cont, q])
        | val _ => exact plain (by simp only [cont, q])
        | ins _ _ => exact plain (by simp only [cont, q])
    | non => exact plain rfl
    | bl _ => exact plain rfl
    | int _ => exact plain rfl
    | str _ => exact plain rfl
    | ty _ => exact plain rfl
    | lst _ => exact plain rfl
    | kl _ => exact plain rfl
    | kt _ => exact plain rfl
    | tup _ => exact plain rfl
    | dK _ => exact plain rfl
    | dT _ => exact plain rfl
    | ins _ _ => exact plain rfl
    | cl _ => exact plain rfl
  | env i =>
    have o' : σ[i]? = some (some v) := o
    have e' : (ρ[i]?).bind Sl.rd = some d := e
    cases q : ρ[i]? with
    | none => rw [q] at e'; cases e'
    | some s =>
      rw [q] at e'
      obtain ⟨o1, A, B, b, h1, h2, h3, _⟩ := h.own.env_at q
      rw [o'] at h1; cases h1
      have ne : s ≠ .emp := fun z => by subst z; cases e'
      obtain ⟨v', ev, ow⟩ := OwnO.of_ne h3 ne
      cases ev
      exact Own.top h.good (h.cellsE h2) ow e'
  | fr s =>
    obtain ⟨c, ow, f, _⟩ := o
    exact Own.top h.good (fun p hp => (f.at_ p hp).1) ow e
end
end DV

/-! DVc: steps of worlds (a new object, freezing, a call's frame); weakening of readings. -/
namespace DV
open PySem PySem.Spec PyProof.Rows L2

theorem _root_.L2.PE.imp {X : Cx} {e : Expr} {t t' : TE} (h : PE X e t) (k : ∀ σ H Q, t' σ H Q → t σ H Q) : PE X e t' := ⟨fun pins s σ H Q I hw => h.run pins s σ H Q I (k σ H Q hw)⟩
theorem _root_.L2.PT.imp {X : Cx} {e : Expr} {t t' : TT} (h : PT X e t) (k : ∀ σ H Q, t' σ H Q → t σ H Q) : PT X e t' := ⟨fun pins s σ H Q I hw => h.run pins s σ H Q I (k σ H Q hw)⟩
theorem _root_.L2.PA.imp {X : Cx} {e : List Expr} {t t' : TA} (h : PA X e t) (k : ∀ σ H Q, t' σ H Q → t σ H Q) : PA X e t' := ⟨fun pos pins s σ H Q I hw => h.run pos pins s σ H Q I (k σ H Q hw)⟩
theorem _root_.L2.PS.imp {X : Cx} {e : Stmt} {t t' : TS} (h : PS X e t) (k : ∀ D σ H, t' D σ H → t D σ H) : PS X e t' := ⟨fun pins s σ H D I hw => h.run pins s σ H D I (k D σ H hw)⟩
theorem _root_.L2.PSs.imp {X : Cx} {e : List Stmt} {t t' : TS} (h : PSs X e t) (k : ∀ D σ H, t' D σ H → t D σ H) : PSs X e t' := ⟨fun pins s σ H D I hw => h.run pins s σ H D I (k D σ H hw)⟩

/-! ### a new object -/
section
variable {Γ : Gm} {W : WX} {w w0 w1 w2 : Wd} {σ : L2.St} {ρ S : List Sl} {p : Addr} {o : HO}
theorem Good.none_of (g : Good w) (h : w.H p = none) : w.F p = none ∧ p ∉ w.ad := by
  refine ⟨?_, fun z => ?_⟩
  · cases q : w.F p with
    | none => rfl
    | some o =>
      have e := g.sub _ _ q
      rw [h] at e; cases e
  · obtain ⟨q, hq, rfl⟩ := List.mem_map.mp z
    have e := (g.cell q hq).1
    rw [h] at e; cases e
theorem upd_none {H : Hp} {a b : Addr} (h : H p = none) (e : H a = some o) : ∀ u, upd H p u a = some o := fun u => by
  rw [upd_ne (ne_of_none e h)]; exact e
theorem Ext.new (g : Good w) (h : w.H p = none) : Ext w { w with H := upd w.H p o } where
  gr := .refl
  keep := fun a u e _ _ => upd_none (b := a) h e _
  tab := fun a ps e => ⟨#[], by show upd w.H p o a = _; rw [upd_none (b := a) h e]; simp⟩
  cnew := fun _ z => .inl z
  fnew := fun _ _ z => .inl z
  live := fun a u e => ⟨u, upd_none (b := a) h e _⟩
theorem Good.new (g : Good w) (h : w.H p = none) : Good { w with H := upd w.H p o } :=
  ⟨fun a u e => upd_none (b := a) h (g.sub a u e) _, fun q hq => ⟨upd_none (b := p) h (g.cell q hq).1 _, (g.cell q hq).2⟩, g.nd⟩
theorem Fresh.new (g : Good w) (h : w.H p = none) (nt : ∀ ps, o ≠ .tbl ps) : Fresh { w with H := upd w.H p o } [(p, o)] := by
  obtain ⟨h1, h2⟩ := g.none_of h
  refine ⟨fun q hq => ?_, by simp⟩
  have e : q = (p, o) := by simpa using hq
  subst e
  exact ⟨upd_same, h1, h2, nt⟩
/-- a new frozen object -/
theorem Ext.newF (g : Good w) (h : w.H p = none) : Ext w { w with F := upd w.F p o, H := upd w.H p o } where
  gr := ⟨⟨[], by simp⟩, fun a u e => upd_none (b := a) (g.none_of h).1 e _⟩
  keep := fun a u e _ _ => upd_none (b := a) h e _
  tab := fun a ps e => ⟨#[], by show upd w.H p o a = _; rw [upd_none (b := a) h e]; simp⟩
  cnew := fun _ z => .inl z
  fnew := fun a u z => by
    by_cases e : a = p
    · subst e; exact .inr (.inl h)
    · have z : upd w.F p o a = some u := z
      rw [upd_ne e] at z
      exact .inl z
  live := fun a u e => ⟨u, upd_none (b := a) h e _⟩
theorem Good.newF (g : Good w) (h : w.H p = none) : Good { w with F := upd w.F p o, H := upd w.H p o } := by
  refine ⟨fun a u e => ?_, fun q hq => ⟨upd_none (b := p) h (g.cell q hq).1 _, ?_⟩, g.nd⟩
  · by_cases z : a = p
    · subst z
      have e : upd w.F a o a = some u := e
      show upd w.H a o a = some u
      rw [upd_same] at e ⊢
      exact e
    · have e : upd w.F p o a = some u := e
      show upd w.H p o a = some u
      rw [upd_ne z] at e ⊢
      exact g.sub a u e
  · show upd w.F p o q.1 = none
    rw [upd_ne]
    · exact (g.cell q hq).2
    · intro z
      have e := (g.cell q hq).1
      rw [z, h] at e; cases e
theorem Rel.move (h : Rel Γ w ρ S σ) (x : Gr w.R w1.R w.F w1.F) (g : Good w1) (eE : w1.E = w.E) (eC : w1.C = w.C) (eR : w1.R = w.R) : Rel Γ w1 ρ S σ := by
  refine ⟨g, ?_⟩
  rw [eE, eC, eR]
  exact h.own.up x.f
theorem RelS.move (h : RelS Γ w S) (x : Gr w.R w1.R w.F w1.F) (g : Good w1) (eE : w1.E = w.E) (eC : w1.C = w.C) (eR : w1.R = w.R) : RelS Γ w1 S := by
  refine ⟨g, eE.trans h.noE, ?_⟩
  rw [eC, eR]
  exact h.own.up ⟨⟨[], by simp⟩, x.f⟩

/-! ### freezing -/
def Sl.own? : Sl → Bool
  | .emp => false
  | _ => true
/-- to a datum -/
def toD (r : Rv) : M D := fun ρ S => match r with
  | .d d => .ok d ρ S false
  | .fr s => .ok s.frz ρ S false
  | .env i => match ρ[i]? with
    | some s => if s.own? then .ok s.frz (ρ.set i (.val s.frz)) S true else .bad
    | none => .bad
theorem set_same {α : Type} {l : List α} {i : Nat} {a : α} (h : l[i]? = some a) : l.set i a = l := by
  apply List.ext_getElem?
  intro j
  by_cases e : i = j
  · subst e
    rw [List.getElem?_set_self (List.getElem?_eq_some_iff.mp h).1, h]
  · rw [List.getElem?_set_ne e]
theorem OwnO.of_own {R : List Addr} {F : Hp} {s : Sl} {o : Option V} {c : Cells} (h : OwnO Γ R F s o c) (n : s.own? = true) : ∃ v, o = some v ∧ Own Γ R F s v c :=
  h.of_ne fun e => by subst e; cases n
/-- a slot's thing is frozen where it stands -/
theorem freeze_env {i : Nat} {s : Sl} {v : V} (h : Rel Γ w1 ρ S σ) (e : ρ[i]? = some s) (n : s.own? = true) (ev : σ[i]? = some (some v)) :
    ∃ w2, w2.H = w1.H ∧ Ext w1 w2 ∧ Rel Γ w2 (ρ.set i (.val s.frz)) S σ ∧ Rep Γ w2.R w2.F s.frz v ∧ w2.R = w1.R := by
  obtain ⟨o, A, B, b, h1, h2, h3, h4⟩ := h.own.env_at e
  rw [ev] at h1; cases h1
  obtain ⟨v', e', ow⟩ := h3.of_own n
  cases e'
  have g := h.good
  have eAd : w1.ad = A.map (·.1) ++ b.map (·.1) ++ (B ++ w1.C).map (·.1) := by show (w1.E ++ w1.C).map _ = _; rw [h2]; simp
  have nd := g.nd
  rw [eAd] at nd
  obtain ⟨q1, q2, q3⟩ := List.nodup_append.mp nd
  obtain ⟨q4, ndb, q6⟩ := List.nodup_append.mp q1
  have up : ∀ a u, w1.F a = some u → addC w1.F b a = some u := addC_up fun p hp => (g.cell p (by rw [h2]; simp [hp])).2
  have sub : ∀ a u, addC w1.F b a = some u → w1.H a = some u := fun a u z => by
    rcases addC_cases z with z | z
    · exact (g.cell (a, u) (by rw [h2]; simp [z])).1
    · exact g.sub _ _ z
  have rep : Rep Γ w1.R (addC w1.F b) s.frz v := Own.frz up s v b (fun p hp => addC_of ndb hp) ow
  have mem : ∀ p, p ∈ A ++ B ++ w1.C → p ∈ w1.E ++ w1.C := fun p hp => by
    rw [h2]
    simp only [List.mem_append] at hp ⊢
    rcases hp with (z | z) | z <;> simp [z]
  have out : ∀ p, p ∈ A ++ B ++ w1.C → p.1 ∉ b.map (·.1) := fun p hp z => by
    have hp : p ∈ A ∨ p ∈ B ++ w1.C := by simp only [List.mem_append] at hp ⊢; rcases hp with (y | y) | y <;> simp [y]
    rcases hp with y | y
    · exact q6 _ (List.mem_map_of_mem y) _ z rfl
    · exact q3 _ (List.mem_append_right _ z) _ (List.mem_map_of_mem y) rfl
  refine ⟨⟨addC w1.F b, A ++ B, w1.C, w1.R, w1.H⟩, rfl, ⟨⟨⟨[], by simp⟩, up⟩, fun a u z _ _ => z, fun a ps z => ⟨#[], by simpa using z⟩, fun a z => ?_, fun a u z => ?_, fun a u z => ⟨u, z⟩⟩, ⟨⟨sub, fun p hp => ⟨(g.cell p (mem p hp)).1, ?_⟩, ?_⟩, ?_⟩, rep, rfl⟩
  · obtain ⟨p, hp, rfl⟩ := List.mem_map.mp z
    exact .inl (List.mem_map_of_mem (mem p hp))
  · rcases addC_cases z with z | z
    · exact .inr (.inr (List.mem_map_of_mem (f := (·.1)) (show (a, u) ∈ w1.E ++ w1.C by rw [h2]; simp [z])))
    · exact .inl z
  · show addC w1.F b p.1 = none
    rw [addC_out (out p hp)]
    exact (g.cell p (mem p hp)).2
  · show ((A ++ B ++ w1.C).map (·.1)).Nodup
    rw [List.append_assoc, List.map_append]
    exact List.nodup_append.mpr ⟨q4, q2, fun a ha c hc => q3 a (List.mem_append_left _ ha) c hc⟩
  · have z := h4 (addC w1.F b) up (.val s.frz) (some v) [] ⟨v, rfl, by rw [Own]; exact ⟨rfl, rep⟩⟩
    rw [set_same ev] at z
    simpa using z
/-- a new thing is frozen -/
theorem freeze_fr {s : Sl} {v : V} (x : Ext w0 w1) (h : Good w1) (o : ∃ c, Own Γ w1.R w1.F s v c ∧ Fresh w1 c ∧ ∀ p ∈ c, w0.H p.1 = none ∨ p.1 ∈ w0.ad) :
    ∃ F', (∀ a u, w1.F a = some u → F' a = some u) ∧ Ext w0 { w1 with F := F' } ∧ Good { w1 with F := F' } ∧ Rep Γ w1.R F' s.frz v := by
  obtain ⟨c, ow, f, b⟩ := o
  have up : ∀ a u, w1.F a = some u → addC w1.F c a = some u := addC_up fun p hp => (f.at_ p hp).2.1
  refine ⟨addC w1.F c, up, ⟨x.gr.trans ⟨⟨[], by simp⟩, up⟩, x.keep, x.tab, x.cnew, fun a u z => ?_, x.live⟩, ⟨fun a u z => ?_, fun p hp => ⟨(h.cell p hp).1, ?_⟩, h.nd⟩, Own.frz up s v c (fun p hp => addC_of f.nd hp) ow⟩
  · rcases addC_cases z with z | z
    · exact .inr (b (a, u) z)
    · exact x.fnew a u z
  · rcases addC_cases z with z | z
    · exact (f.at_ (a, u) z).1
    · exact h.sub _ _ z
  · show addC w1.F c p.1 = none
    rw [addC_out]
    · exact (h.cell p hp).2
    · intro z
      obtain ⟨q, hq, e⟩ := List.mem_map.mp z
      exact (f.at_ q hq).2.2.1 (by rw [e]; exact List.mem_map_of_mem hp)
/-- whatever it is, it becomes a datum -/
theorem toD_ok {r : Rv} {d : D} {ρ' S' : List Sl} {t : Bool} {v : V} (x : Ext w0 w1) (h : Rel Γ w1 ρ S σ) (o : RvOk Γ w0 w1 σ r v) (e : toD r ρ S = .ok d ρ' S' t) :
    ∃ w2, w2.H = w1.H ∧ Ext w0 w2 ∧ Rel Γ w2 ρ' S' σ ∧ Rep Γ w2.R w2.F d v ∧ (t = false → w2.E = w1.E) := by
  cases r with
  | d x0 =>
    cases e
    exact ⟨w1, rfl, x, h, o, fun _ => rfl⟩
  | fr s =>
    cases e
    obtain ⟨F', up, x', g', rep⟩ := freeze_fr x h.good o
    exact ⟨{ w1 with F := F' }, rfl, x', h.move ⟨⟨[], by simp⟩, up⟩ g' rfl rfl rfl, rep, fun _ => rfl⟩
  | env i =>
    have o' : σ[i]? = some (some v) := o
    unfold toD at e
    cases q : ρ[i]? with
    | none => simp [q] at e
    | some s =>
      simp only [q] at e
      split at e
      · rename_i hs
        cases e
        obtain ⟨w2, e1, x2, r2, rep, _⟩ := freeze_env h q hs o'
        exact ⟨w2, e1, x.trans x2, r2, rep, fun z => nomatch z⟩
      · cases e
theorem toD_noex {r : Rv} {x : Exn} {ρ' S' : List Sl} : toD r ρ S ≠ .ex x ρ' S' := by
  unfold toD
  cases r with
  | d _ => simp
  | fr _ => simp
  | env i =>
    simp only
    split
    · split <;> simp
    · simp
/-- an expression's datum -/
def cD (c : M Rv) : M D := fun ρ S => (c ρ S).bind fun r ρ S => toD r ρ S
theorem CKd.of {c : M Rv} {Qd : D → V → Hp → Prop} {Q1 : VK} (h : CKd Γ W w σ Qd (cD c ρ S))
    (k : ∀ d ρ' S' t w' v, Ext w w' → (t = false → w'.E = w.E) → Rel Γ w' ρ' S' σ → Rep Γ w'.R w'.F d v → cD c ρ S = .ok d ρ' S' t → Q1 v w'.H) : CK Γ W w σ Q1 (c ρ S) := by
  unfold cD at h k
  cases q : c ρ S with
  | ok r ρ1 S1 t1 =>
    rw [q] at h k
    intro w1 v x1 e1 r1 o1
    cases q2 : toD r ρ1 S1 with
    | ok d ρ2 S2 t2 =>
      obtain ⟨w2, eH, x2, r2, rep, e2⟩ := toD_ok x1 r1 o1 q2
      rw [← eH]
      refine k d ρ2 S2 (t1 || t2) w2 v x2 (fun z => ?_) r2 rep (by rw [Res.bind_ok, q2]; rfl)
      obtain ⟨z1, z2⟩ := Bool.or_eq_false_iff.mp z
      rw [e2 z2, e1 z1]
    | ex y ρ2 S2 => exact absurd q2 toD_noex
    | bad => rw [Res.bind_ok, q2] at h; exact h.elim
  | ex y ρ1 S1 => rw [q] at h; exact h
  | bad => rw [q] at h; exact h
end
end DV

/-! DVd: expressions by data: names, constants, operators, comparisons, tests, displays, subscripts. -/
namespace DV
open PySem PySem.Spec PyProof.Rows L2

/-! ### operations by values -/
/-- what a result of an operation owes -/
def PQ (Γ : Gm) (w : Wd) (Q : VK) : Option Rv → Prop
  | some r => ∀ w' v, Ext w w' → w'.E = w.E → w'.C = w.C → w'.R = w.R → Good w' → RvOk Γ w w' [] r v → Q v w'.H
  | none => False
def lift (o : Option Rv) : M Rv := fun ρ S => match o with
  | some r => .ok r ρ S false
  | none => .bad
section
variable {Γ : Gm} {W : WX} {w w0 w1 w2 : Wd} {σ : L2.St} {ρ S : List Sl} {Q : VK}
theorem RvOk.nil {r : Rv} {v : V} (h : RvOk Γ w0 w [] r v) : RvOk Γ w0 w σ r v := by
  cases r with
  | d _ => exact h
  | fr _ => exact h
  | env i =>
    have h : ([] : L2.St)[i]? = some (some v) := h
    simp at h
theorem CK.prim {o : Option Rv} (R : Rel Γ w ρ S σ) (h : CK Γ W w σ Q (lift o ρ S)) : PQ Γ w Q o := by
  cases o with
  | none => exact h
  | some r => exact fun w' v x eE eC eR g ok => h w' v x (fun _ => eE) (R.move x.gr g eE eC eR) ok.nil
theorem PQ.d {d : D} {v : V} (g : Good w) (h : PQ Γ w Q (some (.d d))) (r : Rep Γ w.R w.F d v) : Q v w.H := h w v (.refl w) rfl rfl rfl g r
theorem PQ.fr {s : Sl} {p : Addr} {o : HO} (g : Good w) (h : PQ Γ w Q (some (.fr s))) (hp : w.H p = none) (nt : ∀ ps, o ≠ .tbl ps) (ow : Own Γ w.R w.F s (.ref p) [(p, o)]) : Q (.ref p) (upd w.H p o) :=
  h { w with H := upd w.H p o } (.ref p) (.new g hp) rfl rfl rfl (.new g hp) ⟨_, ow, .new g hp nt, fun q hq => by
    have e : q = (p, o) := by simpa using hq
    subst e
    exact .inl hp⟩
theorem PQ.new {d : D} {p : Addr} {o : HO} (g : Good w) (h : PQ Γ w Q (some (.d d))) (hp : w.H p = none) (r : Rep Γ w.R (upd w.F p o) d (.ref p)) : Q (.ref p) (upd w.H p o) :=
  h { w with F := upd w.F p o, H := upd w.H p o } (.ref p) (.newF g hp) rfl rfl rfl (.newF g hp) r
theorem updF_up {F : Hp} {p : Addr} {o : HO} (h : F p = none) : ∀ a u, F a = some u → upd F p o a = some u := fun a u e => upd_none (b := a) h e _
end

/-- a two-place operation: what it gives, what its rule asks -/
def BinOk (Γ : Gm) (g : D → D → Option Rv) (r : R2) : Prop :=
  ∀ (w : Wd) (v1 v2 : V) (d1 d2 : D) (Q : VK), Good w → Top Γ w d1 v1 → Top Γ w d2 v2 → PQ Γ w Q (g d1 d2) → r v1 v2 w.H Q
def cBin (g : D → D → Option Rv) (ca cb : M Rv) : M Rv := fun ρ S => (ca ρ S).bind fun ra ρ S => (cb ρ S).bind fun rb ρ S =>
  match cont ρ S ra, cont ρ S rb with
  | some d1, some d2 => lift (g d1 d2) ρ S
  | _, _ => .bad
section
variable {X : Cx} {Γ : Gm} {W : WX} {a b c : Expr} {ca cb cc : M Rv} {pos : Pos}
theorem bin_core {g : D → D → Option Rv} {r : R2} (hg : BinOk Γ g r) {σ : L2.St} {H : Hp} {Q : VK} (h : tM Γ W (cBin g ca cb) σ H Q) : tOp r (tM Γ W ca) (tM Γ W cb) σ H Q := by
  obtain ⟨F, E, C, R, ρ, S, rel, ck⟩ := h
  refine ⟨F, E, C, R, ρ, S, rel, CK.bind ck fun ra ρ1 S1 w1 v1 x1 rel1 o1 ck1 => ?_⟩
  refine ⟨w1.F, w1.E, w1.C, w1.R, ρ1, S1, rel1, CK.bind ck1 fun rb ρ2 S2 w2 v2 x2 rel2 o2 ck2 => ?_⟩
  cases e1 : cont ρ2 S2 ra with
  | none => simp only [e1] at ck2; exact ck2.elim
  | some d1 =>
    cases e2 : cont ρ2 S2 rb with
    | none => simp only [e1, e2] at ck2; exact ck2.elim
    | some d2 =>
      simp only [e1, e2] at ck2
      exact hg w2 v1 v2 d1 d2 Q rel2.good (rel2.top (o1.up x2) e1) (rel2.top o2 e2) (ck2.prim rel2)
theorem pm_bin {op : Operator} {g : D → D → Option Rv} {r : R2} (ho : OpR X (binaryOp op) r) (hg : BinOk Γ g r) (ha : PE X a (tM Γ W ca)) (hb : PE X b (tM Γ W cb)) : PE X (.BinOp a op b pos) (tM Γ W (cBin g ca cb)) :=
  (pe_op ho ha hb).imp fun _ _ _ h => bin_core hg h
theorem pm_cmp {op : CmpOp} {g : D → D → Option Rv} {r : R2} (ho : OpR X (compareOp op) r) (hg : BinOk Γ g r) (ha : PE X a (tM Γ W ca)) (hb : PE X b (tM Γ W cb)) (hm : behindInMarks op b = false) : PE X (.Compare a [op] [b] pos) (tM Γ W (cBin g ca cb)) :=
  (pe_cmpR ho ha hb hm).imp fun _ _ _ h => bin_core hg h
theorem pm_ix {g : D → D → Option Rv} {r : R2} (ho : IxR X r) (hg : BinOk Γ g r) (ha : PE X a (tM Γ W ca)) (hb : PE X b (tM Γ W cb)) (hs : PlainIx b) : PE X (.Subscript a b pos) (tM Γ W (cBin g ca cb)) :=
  (pe_ix ho ha hb hs).imp fun _ _ _ h => bin_core hg h
theorem BinOk.or {g g' : D → D → Option Rv} {r r' : R2} (h : BinOk Γ g r) (h' : BinOk Γ g' r') : BinOk Γ (fun x y => (g x y).or (g' x y)) (fun x y H Q => r x y H Q ∨ r' x y H Q) := by
  intro w v1 v2 d1 d2 Q gd t1 t2 q
  have q : PQ Γ w Q ((g d1 d2).or (g' d1 d2)) := q
  cases e : g d1 d2 with
  | none =>
    rw [e] at q
    exact .inr (h' w v1 v2 d1 d2 Q gd t1 t2 q)
  | some z =>
    rw [e] at q
    exact .inl (h w v1 v2 d1 d2 Q gd t1 t2 (by rw [e]; exact q))
end

/-! ### names and constants -/
def cName (i : Nat) : M Rv := fun ρ S => match ρ[i]? with
  | some (.val d) => .ok (.d d) ρ S false
  | some .emp => .bad
  | some _ => .ok (.env i) ρ S false
  | none => .bad
def cC (d : D) : M Rv := fun ρ S => .ok (.d d) ρ S false
section
variable {X : Cx} {Γ : Gm} {W : WX}
theorem pm_name (i : Nat) {x : Str} {pos : Pos} (hN : X.N[i]? = some x) (hv : Vis X.env.scope x) (hd : (x == ("__debug__" : Str)) = false := by decide) (hcd : (x == ("__classdict__" : Str)) = false := by decide) : PE X (.Name x pos) (tM Γ W (cName i)) := by
  refine (pe_var hN hv hd hcd).imp fun σ H Q h => ?_
  obtain ⟨F, E, C, R, ρ, S, rel, ck⟩ := h
  unfold cName at ck
  cases q : ρ[i]? with
  | none => simp only [q] at ck; exact ck.elim
  | some s =>
    obtain ⟨o, A, B, b, h1, h2, h3, _⟩ := rel.own.env_at q
    have own : ∀ v, o = some v → CK Γ W ⟨F, E, C, R, H⟩ σ Q (.ok (.env i) ρ S false) → ∃ v, σ[i]? = some (some v) ∧ Q v H := fun v e ck => by
      subst e
      exact ⟨v, h1, ck ⟨F, E, C, R, H⟩ v (.refl _) (fun _ => rfl) rel h1⟩
    cases s with
    | emp => simp only [q] at ck; exact ck.elim
    | val d =>
      simp only [q] at ck
      obtain ⟨v, e, ow⟩ := h3
      subst e
      rw [Own] at ow
      exact ⟨v, h1, ck ⟨F, E, C, R, H⟩ v (.refl _) (fun _ => rfl) rel ow.2⟩
    | lst _ => simp only [q] at ck; obtain ⟨v, e, ow⟩ := h3; exact own v e ck
    | dK _ => simp only [q] at ck; obtain ⟨v, e, ow⟩ := h3; exact own v e ck
    | dT _ => simp only [q] at ck; obtain ⟨v, e, ow⟩ := h3; exact own v e ck
    | ins _ _ => simp only [q] at ck; obtain ⟨v, e, ow⟩ := h3; exact own v e ck
theorem tC_of {v : V} {d : D} (hr : ∀ R F, Rep Γ R F d v) {σ : L2.St} {H : Hp} {Q : VK} (h : tM Γ W (cC d) σ H Q) : tC v σ H Q := by
  obtain ⟨F, E, C, R, ρ, S, rel, ck⟩ := h
  exact ck ⟨F, E, C, R, H⟩ v (.refl _) (fun _ => rfl) rel (hr R F)
theorem pm_int {i : Int} {j pos} : PE X (.Constant (.int i) j pos) (tM Γ W (cC (.int i))) := pe_int.imp fun _ _ _ h => tC_of (fun _ _ => by rw [Rep]) h
theorem pm_bl {i : Bool} {j pos} : PE X (.Constant (.bool i) j pos) (tM Γ W (cC (.bl i))) := pe_bl.imp fun _ _ _ h => tC_of (fun _ _ => by rw [Rep]) h
theorem pm_non {j pos} : PE X (.Constant .none j pos) (tM Γ W (cC .non)) := pe_non.imp fun _ _ _ h => tC_of (fun _ _ => by rw [Rep]) h
theorem pm_str {x : Str} {j pos} : PE X (.Constant (.str x) j pos) (tM Γ W (cC (.str x))) := pe_str.imp fun _ _ _ h => tC_of (fun _ _ => by rw [Rep]) h
/-- a module's constant, class, def -/
theorem pm_glob {x : Str} {v : V} {d : D} {u : Value} {pos : Pos} (hr : ∀ R F, Rep Γ R F d v) (hg : Gl X x) (hm : X.mg x = some u) (r : RelV v u) (hd : (x == ("__debug__" : Str)) = false := by decide) : PE X (.Name x pos) (tM Γ W (cC d)) :=
  (pe_glob hg hm r hd).imp fun _ _ _ h => tC_of hr h
theorem pm_bltn {x : Str} {v : V} {d : D} {u : Value} {pos : Pos} (hr : ∀ R F, Rep Γ R F d v) (hg : Gl X x) (hm : X.mg x = none) (hv : bootBuiltins x = some u) (r : RelV v u) (hn : x ≠ "__name__" := by decide) (hd : (x == ("__debug__" : Str)) = false := by decide) : PE X (.Name x pos) (tM Γ W (cC d)) :=
  (pe_bltn hg hm hv r hn hd).imp fun _ _ _ h => tC_of hr h
end

/-! ### the operations -/
def oInt (g : Int → Int → Option D) : D → D → Option Rv
  | .int i, .int j => (g i j).map .d
  | _, _ => none
section
variable {Γ : Gm}
theorem top_int {w : Wd} {i : Int} {v : V} (h : Top Γ w (.int i) v) : v = .int i := by
  have h : Rep Γ w.R w.F (.int i) v := h
  rw [Rep] at h; exact h
theorem top_str {w : Wd} {i : Str} {v : V} (h : Top Γ w (.str i) v) : v = .str i := by
  have h : Rep Γ w.R w.F (.str i) v := h
  rw [Rep] at h; exact h
theorem top_bl {w : Wd} {i : Bool} {v : V} (h : Top Γ w (.bl i) v) : v = .bl i := by
  have h : Rep Γ w.R w.F (.bl i) v := h
  rw [Rep] at h; exact h
theorem top_non {w : Wd} {v : V} (h : Top Γ w .non v) : v = .non := by
  have h : Rep Γ w.R w.F .non v := h
  rw [Rep] at h; exact h
theorem top_ty {w : Wd} {n : String} {v : V} (h : Top Γ w (.ty n) v) : v = .ty n := by
  have h : Rep Γ w.R w.F (.ty n) v := h
  rw [Rep] at h; exact h
theorem top_cl {w : Wd} {n : Nat} {v : V} (h : Top Γ w (.cl n) v) : v = .ref (Γ.cA n) := by
  have h : Rep Γ w.R w.F (.cl n) v := h
  rw [Rep] at h; exact h
theorem top_tup {w : Wd} {xs : List D} {v : V} (h : Top Γ w (.tup xs) v) : ∃ a ys, v = .ref a ∧ w.F a = some (.tup ys) ∧ RepL Γ w.R w.F xs ys := by
  have h : Rep Γ w.R w.F (.tup xs) v := h
  rw [Rep] at h; exact h
theorem top_kt {w : Wd} {xs : List D} {v : V} (h : Top Γ w (.kt xs) v) : ∃ a ys, v = .ref a ∧ SqT Γ.K w.F a ys ∧ RepL Γ w.R w.F xs ys := by
  have h : Rep Γ w.R w.F (.kt xs) v := h
  rw [Rep] at h; exact h
theorem top_kl {w : Wd} {xs : List D} {v : V} (h : Top Γ w (.kl xs) v) : ∃ a ys, v = .ref a ∧ SqL Γ.K w.F a ys ∧ RepL Γ w.R w.F xs ys := by
  have h : Rep Γ w.R w.F (.kl xs) v := h
  rw [Rep] at h; exact h
theorem rep_int {R : List Addr} {F : Hp} {i : Int} : Rep Γ R F (.int i) (.int i) := by rw [Rep]
theorem rep_bl {R : List Addr} {F : Hp} {i : Bool} : Rep Γ R F (.bl i) (.bl i) := by rw [Rep]
theorem rep_str {R : List Addr} {F : Hp} {i : Str} : Rep Γ R F (.str i) (.str i) := by rw [Rep]
theorem rep_non {R : List Addr} {F : Hp} : Rep Γ R F .non .non := by rw [Rep]
/-- two ints to an int, under a decided condition -/
theorem binI {C : Int → Int → Prop} {g : Int → Int → V} {f : Int → Int → Option D} (h : ∀ i j d, f i j = some d → C i j ∧ ∀ R F, Rep Γ R F d (g i j)) : BinOk Γ (oInt f) (rI C g) := by
  intro w v1 v2 d1 d2 Q gd t1 t2 q
  cases d1 with
  | int i =>
    cases d2 with
    | int j =>
      simp only [oInt] at q
      cases e : f i j with
      | none => rw [e] at q; exact q.elim
      | some d =>
        rw [e] at q
        obtain ⟨hc, hr⟩ := h i j d e
        exact ⟨i, j, top_int t1, top_int t2, hc, q.d gd (hr _ _)⟩
    | _ => exact q.elim
  | _ => exact q.elim
theorem binI0 {g : Int → Int → V} {f : Int → Int → Option D} (h : ∀ i j d, f i j = some d → ∀ R F, Rep Γ R F d (g i j)) : BinOk Γ (oInt f) (rI0 g) := by
  intro w v1 v2 d1 d2 Q gd t1 t2 q
  cases d1 with
  | int i =>
    cases d2 with
    | int j =>
      simp only [oInt] at q
      cases e : f i j with
      | none => rw [e] at q; exact q.elim
      | some d =>
        rw [e] at q
        exact ⟨i, j, top_int t1, top_int t2, q.d gd (h i j d e _ _)⟩
    | _ => exact q.elim
  | _ => exact q.elim
end
def oAddI : D → D → Option Rv := oInt fun i j => some (.int (i + j))
def oAddS : D → D → Option Rv
  | .str x, .str y => if x.length + y.length ≤ sizeLine then some (.d (.str (x ++ y))) else none
  | _, _ => none
def oAddL : D → D → Option Rv
  | .lst x, .lst y => if x.length + y.length ≤ sizeLine then some (.fr (.lst (x ++ y))) else none
  | _, _ => none
def oAddT : D → D → Option Rv
  | .tup x, .tup y => if x.length + y.length ≤ sizeLine then (match x with | [] => none | _ :: _ => some (.d (.tup (x ++ y)))) else none
  | _, _ => none
def oAdd : D → D → Option Rv := fun a b => (oAddI a b).or ((oAddS a b).or ((oAddL a b).or (oAddT a b)))
def oSub : D → D → Option Rv := oInt fun i j => some (.int (i - j))
def oMulI : D → D → Option Rv := oInt fun i j => if i.natAbs < 2 ^ 64 ∨ j.natAbs < 2 ^ 64 ∨ (i.natAbs < 2 ^ 400000 ∧ j.natAbs < 2 ^ 400000) then some (.int (i * j)) else none
def oMulL : D → D → Option Rv
  | .lst x, .int k => if -(2 ^ 63) ≤ k ∧ k < 2 ^ 63 ∧ x.length * k.toNat ≤ sizeLine then some (.fr (.lst (List.replicate k.toNat x).flatten)) else none
  | _, _ => none
def oMul : D → D → Option Rv := fun a b => (oMulI a b).or (oMulL a b)
def oFdiv : D → D → Option Rv := oInt fun i j => if 0 < j ∧ j < 1073741824 then some (.int (i / j)) else none
def oMod : D → D → Option Rv := oInt fun i j => if 0 < j then some (.int (i % j)) else none
def oPow : D → D → Option Rv := oInt fun i j => if 0 ≤ j ∧ j ≤ 1000000 ∧ i.natAbs < 2 ^ 64 then some (.int (i ^ j.toNat)) else none
def oBand : D → D → Option Rv := oInt fun i j => some (.int (Builtin.bitAnd i j))
def oLt : D → D → Option Rv := oInt fun i j => some (.bl (decide (i < j)))
def oLe : D → D → Option Rv := oInt fun i j => some (.bl (decide (i ≤ j)))
def oGt : D → D → Option Rv := oInt fun i j => some (.bl (decide (j < i)))
def oGe : D → D → Option Rv := oInt fun i j => some (.bl (decide (j ≤ i)))
section
variable {Γ : Gm} {X : Cx}
theorem some_inj_d {α : Type} {a b : α} (h : some a = some b) : a = b := Option.some.inj h
theorem bAddI : BinOk Γ oAddI (rI0 fun i j => .int (i + j)) := binI0 fun i j d e R F => by cases e; exact rep_int
theorem bSub : BinOk Γ oSub (rI0 fun i j => .int (i - j)) := binI0 fun i j d e R F => by cases e; exact rep_int
theorem bBand : BinOk Γ oBand (rI0 fun i j => .int (Builtin.bitAnd i j)) := binI0 fun i j d e R F => by cases e; exact rep_int
theorem bLt : BinOk Γ oLt (rI0 fun i j => .bl (decide (i < j))) := binI0 fun i j d e R F => by cases e; exact rep_bl
theorem bLe : BinOk Γ oLe (rI0 fun i j => .bl (decide (i ≤ j))) := binI0 fun i j d e R F => by cases e; exact rep_bl
theorem bGt : BinOk Γ oGt (rI0 fun i j => .bl (decide (j < i))) := binI0 fun i j d e R F => by cases e; exact rep_bl
theorem bGe : BinOk Γ oGe (rI0 fun i j => .bl (decide (j ≤ i))) := binI0 fun i j d e R F => by cases e; exact rep_bl
theorem bFdiv : BinOk Γ oFdiv (rI CDiv fun i j => .int (i / j)) := binI fun i j d e => by
  split at e
  · cases e; exact ⟨by assumption, fun _ _ => rep_int⟩
  · cases e
theorem bMod : BinOk Γ oMod (rI (fun _ j => 0 < j) fun i j => .int (i % j)) := binI fun i j d e => by
  split at e
  · cases e; exact ⟨by assumption, fun _ _ => rep_int⟩
  · cases e
theorem bPow : BinOk Γ oPow (rI CPow fun i j => .int (i ^ j.toNat)) := binI fun i j d e => by
  split at e
  · cases e; exact ⟨by assumption, fun _ _ => rep_int⟩
  · cases e
theorem two_sides {i : Int} (h : i.natAbs < 2 ^ 64) : -(2 ^ 64) < i ∧ i < 2 ^ 64 := by omega
theorem bMulI : BinOk Γ oMulI (fun x y H Q => rI CMul (fun i j => .int (i * j)) x y H Q ∨ rI CMulW (fun i j => .int (i * j)) x y H Q) := by
  intro w v1 v2 d1 d2 Q gd t1 t2 q
  cases d1 with
  | int i =>
    cases d2 with
    | int j =>
      simp only [oMulI, oInt] at q
      split at q
      · rename_i h
        have q' := q.d gd rep_int
        rcases h with h | h | h
        · exact .inl ⟨i, j, top_int t1, top_int t2, .inl (two_sides h), q'⟩
        · exact .inl ⟨i, j, top_int t1, top_int t2, .inr (two_sides h), q'⟩
        · exact .inr ⟨i, j, top_int t1, top_int t2, wide_mul h.1 h.2 (by decide) (by decide) (by decide), q'⟩
      · exact q.elim
    | _ => exact q.elim
  | _ => exact q.elim
theorem bAddS : BinOk Γ oAddS (fun x y H Q => ∃ i j, x = .str i ∧ y = .str j ∧ i.length + j.length ≤ sizeLine ∧ Q (.str (i ++ j)) H) := by
  intro w v1 v2 d1 d2 Q gd t1 t2 q
  cases d1 with
  | str i =>
    cases d2 with
    | str j =>
      simp only [oAddS] at q
      split at q
      · exact ⟨i, j, top_str t1, top_str t2, by assumption, q.d gd rep_str⟩
      · exact q.elim
    | _ => exact q.elim
  | _ => exact q.elim
theorem RepL.app {R : List Addr} {F : Hp} : ∀ {xs : List D} {xs' : List V} {ys : List D} {ys' : List V}, RepL Γ R F xs xs' → RepL Γ R F ys ys' → RepL Γ R F (xs ++ ys) (xs' ++ ys')
  | [], _, _, _, h, k => by rw [RepL] at h; subst h; exact k
  | x :: xs, _, ys, ys', h, k => by
    rw [RepL] at h
    obtain ⟨y, r, e, q, l⟩ := h
    subst e
    rw [List.cons_append, RepL]
    exact ⟨y, r ++ ys', rfl, q, l.app k⟩
theorem RepL.rep {R : List Addr} {F : Hp} {xs : List D} {xs' : List V} (h : RepL Γ R F xs xs') : ∀ k : Nat, RepL Γ R F (List.replicate k xs).flatten (List.replicate k xs').flatten
  | 0 => by show RepL Γ R F [] []; rw [RepL]
  | k + 1 => by rw [List.replicate_succ, List.replicate_succ, List.flatten_cons, List.flatten_cons]; exact h.app (h.rep k)
theorem bAddL : BinOk Γ oAddL rCat := by
  intro w v1 v2 d1 d2 Q gd t1 t2 q
  cases d1 with
  | lst i =>
    cases d2 with
    | lst j =>
      simp only [oAddL] at q
      split at q
      · rename_i hl
        obtain ⟨a, ys, e, h1, l1⟩ := t1
        obtain ⟨b, zs, e', h2, l2⟩ := t2
        have n1 := l1.length
        have n2 := l2.length
        refine ⟨a, b, ys, zs, e, e', h1, h2, by omega, fun p hp => q.fr gd hp (fun ps z => nomatch z) ?_⟩
        rw [Own]
        exact ⟨p, _, rfl, l1.app l2, rfl⟩
      · exact q.elim
    | _ => exact q.elim
  | _ => exact q.elim
theorem bMulL : BinOk Γ oMulL rRep := by
  intro w v1 v2 d1 d2 Q gd t1 t2 q
  cases d1 with
  | lst i =>
    cases d2 with
    | int j =>
      simp only [oMulL] at q
      split at q
      · rename_i hl
        obtain ⟨a, ys, e, h1, l1⟩ := t1
        have n1 := l1.length
        refine ⟨a, j, ys, e, top_int t2, h1, hl.1, hl.2.1, by rw [← n1]; exact hl.2.2, fun p hp => q.fr gd hp (fun ps z => nomatch z) ?_⟩
        rw [Own]
        exact ⟨p, _, rfl, l1.rep _, rfl⟩
      · exact q.elim
    | _ => exact q.elim
  | _ => exact q.elim
theorem RepL.ne {R : List Addr} {F : Hp} {x : D} {xs : List D} {ys : List V} (h : RepL Γ R F (x :: xs) ys) : ys ≠ [] := by
  rw [RepL] at h
  obtain ⟨y, r, e, _⟩ := h
  rw [e]; simp
theorem bAddT : BinOk Γ oAddT (rCatT X.K) := by
  intro w v1 v2 d1 d2 Q gd t1 t2 q
  cases d1 with
  | tup i =>
    cases d2 with
    | tup j =>
      simp only [oAddT] at q
      split at q
      · rename_i hl
        obtain ⟨a, ys, e, h1, l1⟩ := top_tup t1
        obtain ⟨b, zs, e', h2, l2⟩ := top_tup t2
        have n1 := l1.length
        have n2 := l2.length
        cases i with
        | nil => exact q.elim
        | cons x i =>
          have hz : ∀ p, w.H p = none → Q (.ref p) (upd w.H p (.tup (ys ++ zs))) := fun p hp => q.new gd hp (by
            rw [Rep]
            refine ⟨p, _, rfl, upd_same, (l1.app l2).up ⟨⟨[], by simp⟩, updF_up (gd.none_of hp).1⟩⟩)
          refine ⟨a, b, ys, zs, e, e', SqT.of (gd.sub _ _ h1), SqT.of (gd.sub _ _ h2), l1.ne, by omega, fun z => ?_, fun _ p hp => hz p hp⟩
          subst z
          have e2 : j = [] := by
            cases j with
            | nil => rfl
            | cons _ _ => exact absurd rfl l2.ne
          subst e2
          rw [List.append_nil] at q
          exact q.d gd (by rw [Rep]; exact ⟨a, ys, rfl, h1, l1⟩)
      · exact q.elim
    | _ => exact q.elim
  | _ => exact q.elim
end
end DV

/-! DVe: equality, membership, identity; chains; truth and tests; argument lists, displays; subscripts and slices. -/
namespace DV
open PySem PySem.Spec PyProof.Rows L2

/-! ### == -/
def D.sc : D → Option V
  | .non => some .non
  | .bl b => some (.bl b)
  | .int i => some (.int i)
  | .str x => some (.str x)
  | _ => none
mutual
def dat : D → Option PyData
  | .non => some .none
  | .bl b => some (.bool b)
  | .int i => some (.int i)
  | .str x => some (.str x)
  | .lst xs => (datL xs).map .list
  | .tup xs => (datL xs).map .tuple
  | .kl xs => (datL xs).map .list
  | .kt xs => (datL xs).map .tuple
  | _ => none
def datL : List D → Option (List PyData)
  | [] => some []
  | x :: xs => match dat x, datL xs with
    | some p, some ps => some (p :: ps)
    | _, _ => none
end
def oEqS (neg : Bool) (d e : D) : Option Rv := match d.sc, e.sc with
  | some x, some y => if scal x y = true then some (.d (.bl (neg != decide (x = y)))) else none
  | _, _ => none
def oEqD (neg : Bool) (d e : D) : Option Rv := match dat d, dat e with
  | some p, some q => if SeqAt.shaped p = true ∧ SeqAt.shaped q = true then some (.d (.bl (neg != PyData.eqv p q))) else none
  | _, _ => none
section
variable {Γ : Gm} {w : Wd}
theorem Rep.scal {R : List Addr} {F : Hp} {d : D} {v x : V} (e : d.sc = some x) (h : Rep Γ R F d v) : v = x := by
  cases d <;> simp only [D.sc, Option.some.injEq, reduceCtorEq] at e <;> subst e <;> rw [Rep] at h <;> exact h
theorem Top.scal {d : D} {v x : V} (e : d.sc = some x) (h : Top Γ w d v) : v = x := by
  cases d <;> first
    | (exact Rep.scal (Γ := Γ) (R := w.R) (F := w.F) e h)
    | (simp [D.sc] at e)
mutual
theorem Rep.dp (g : Good w) : ∀ (d : D) (v : V) (p : PyData), dat d = some p → Rep Γ w.R w.F d v → Dp Γ.K w.H v p
  | .non, v, p, e, h => by rw [dat] at e; cases e; rw [Rep] at h; subst h; exact .non
  | .bl b, v, p, e, h => by rw [dat] at e; cases e; rw [Rep] at h; subst h; exact .bl b
  | .int b, v, p, e, h => by rw [dat] at e; cases e; rw [Rep] at h; subst h; exact .int b
  | .str b, v, p, e, h => by rw [dat] at e; cases e; rw [Rep] at h; subst h; exact .str b
  | .lst xs, v, p, e, h => by
    rw [dat] at e
    obtain ⟨ps, e1, e2⟩ := Option.map_eq_some_iff.mp e
    subst e2
    rw [Rep] at h
    obtain ⟨a, ys, ev, q, l⟩ := h
    subst ev
    exact .lst (SqL.of (g.sub _ _ q)) (RepL.dp g xs ys ps e1 l)
  | .kl xs, v, p, e, h => by
    rw [dat] at e
    obtain ⟨ps, e1, e2⟩ := Option.map_eq_some_iff.mp e
    subst e2
    rw [Rep] at h
    obtain ⟨a, ys, ev, q, l⟩ := h
    subst ev
    exact .lst (SqL.up g.sub q) (RepL.dp g xs ys ps e1 l)
  | .tup xs, v, p, e, h => by
    rw [dat] at e
    obtain ⟨ps, e1, e2⟩ := Option.map_eq_some_iff.mp e
    subst e2
    rw [Rep] at h
    obtain ⟨a, ys, ev, q, l⟩ := h
    subst ev
    exact .tup (SqT.of (g.sub _ _ q)) (RepL.dp g xs ys ps e1 l)
  | .kt xs, v, p, e, h => by
    rw [dat] at e
    obtain ⟨ps, e1, e2⟩ := Option.map_eq_some_iff.mp e
    subst e2
    rw [Rep] at h
    obtain ⟨a, ys, ev, q, l⟩ := h
    subst ev
    exact .tup (SqT.up g.sub q) (RepL.dp g xs ys ps e1 l)
  | .ty _, v, p, e, h => by rw [dat] at e <;> first | cases e | (intros; simp)
  | .dK _, v, p, e, h => by rw [dat] at e <;> first | cases e | (intros; simp)
  | .dT _, v, p, e, h => by rw [dat] at e <;> first | cases e | (intros; simp)
  | .ins _ _, v, p, e, h => by rw [dat] at e <;> first | cases e | (intros; simp)
  | .ob _, v, p, e, h => by rw [dat] at e <;> first | cases e | (intros; simp)
  | .cl _, v, p, e, h => by rw [dat] at e <;> first | cases e | (intros; simp)
theorem RepL.dp (g : Good w) : ∀ (xs : List D) (ys : List V) (ps : List PyData), datL xs = some ps → RepL Γ w.R w.F xs ys → DpAll Γ.K w.H ys ps
  | [], ys, ps, e, h => by
    rw [datL] at e
    cases e
    rw [RepL] at h
    subst h
    exact .nil
  | x :: xs, ys, ps, e, h => by
    rw [datL] at e
    split at e
    · rename_i p ps' e1 e2
      cases e
      rw [RepL] at h
      obtain ⟨y, r, e3, q, l⟩ := h
      subst e3
      exact .cons (Rep.dp g x y p e1 q) (RepL.dp g xs r ps' e2 l)
    · cases e
end
theorem Top.dp (g : Good w) {d : D} {v : V} {p : PyData} (e : dat d = some p) (h : Top Γ w d v) : Dp Γ.K w.H v p := by
  cases d with
  | lst xs =>
    rw [dat] at e
    obtain ⟨ps, e1, e2⟩ := Option.map_eq_some_iff.mp e
    subst e2
    obtain ⟨a, ys, ev, q, l⟩ := h
    subst ev
    exact .lst (SqL.of q) (RepL.dp g xs ys ps e1 l)
  | dK xs => rw [dat] at e <;> first | cases e | (intros; simp)
  | dT xs => rw [dat] at e <;> first | cases e | (intros; simp)
  | non => exact Rep.dp g _ _ _ e h
  | bl _ => exact Rep.dp g _ _ _ e h
  | int _ => exact Rep.dp g _ _ _ e h
  | str _ => exact Rep.dp g _ _ _ e h
  | ty _ => exact Rep.dp g _ _ _ e h
  | tup _ => exact Rep.dp g _ _ _ e h
  | kl _ => exact Rep.dp g _ _ _ e h
  | kt _ => exact Rep.dp g _ _ _ e h
  | ins _ _ => exact Rep.dp g _ _ _ e h
  | ob _ => exact Rep.dp g _ _ _ e h
  | cl _ => exact Rep.dp g _ _ _ e h
theorem bEqS : BinOk Γ (oEqS false) rEq := by
  intro w v1 v2 d1 d2 Q gd t1 t2 q
  unfold oEqS at q
  split at q
  · rename_i x y e1 e2
    split at q
    · rename_i hs
      rw [t1.scal e1, t2.scal e2]
      exact ⟨hs, by have := q.d gd rep_bl; simpa using this⟩
    · exact q.elim
  · exact q.elim
theorem bNeS : BinOk Γ (oEqS true) rNe := by
  intro w v1 v2 d1 d2 Q gd t1 t2 q
  unfold oEqS at q
  split at q
  · rename_i x y e1 e2
    split at q
    · rename_i hs
      rw [t1.scal e1, t2.scal e2]
      exact ⟨hs, by have := q.d gd rep_bl; simpa using this⟩
    · exact q.elim
  · exact q.elim
theorem bEqD : BinOk Γ (oEqD false) (rEqD Γ.K) := by
  intro w v1 v2 d1 d2 Q gd t1 t2 q
  unfold oEqD at q
  split at q
  · rename_i x y e1 e2
    split at q
    · rename_i hs
      exact ⟨x, y, t1.dp gd e1, t2.dp gd e2, hs.1, hs.2, by have := q.d gd rep_bl; simpa using this⟩
    · exact q.elim
  · exact q.elim
theorem bNeD : BinOk Γ (oEqD true) (rNeD Γ.K) := by
  intro w v1 v2 d1 d2 Q gd t1 t2 q
  unfold oEqD at q
  split at q
  · rename_i x y e1 e2
    split at q
    · rename_i hs
      exact ⟨x, y, t1.dp gd e1, t2.dp gd e2, hs.1, hs.2, by have := q.d gd rep_bl; simpa using this⟩
    · exact q.elim
  · exact q.elim
end
def oEq (neg : Bool) : D → D → Option Rv := fun d e => (oEqS neg d e).or (oEqD neg d e)

/-! ### in -/
def scL : List D → Option (List V)
  | [] => some []
  | x :: xs => match x.sc, scL xs with
    | some p, some ps => some (p :: ps)
    | _, _ => none
def D.items : D → Option (List D)
  | .lst xs => some xs
  | .tup xs => some xs
  | .kl xs => some xs
  | .kt xs => some xs
  | _ => none
def oInL (neg : Bool) (x y : D) : Option Rv := match x.sc, y.items.bind scL with
  | some v, some vs => some (.d (.bl (if neg then !inV v vs else inV v vs)))
  | _, _ => none
def oInS (neg : Bool) : D → D → Option Rv
  | .str i, .str j => some (.d (.bl (neg != !(Builtin.Str.occurrences j i 0 j.length 1).isEmpty)))
  | _, _ => none
def keyD : D → Option Key
  | .int i => some (.inl i)
  | .str x => some (.inr x)
  | _ => none
def keysD : List D → Option (List Key)
  | [] => some []
  | x :: xs => match keyD x, keysD xs with
    | some p, some ps => some (p :: ps)
    | _, _ => none
def luk {κ : Type} [DecidableEq κ] (kvs : List (κ × D)) (k : κ) : Option D := (kvs.find? fun kv => decide (kv.1 = k)).map (·.2)
/-- what a dict has at a key -/
def dGet : D → D → Option (Option D)
  | .dK kvs, k => (keyD k).map fun k => luk kvs k
  | .dT kvs, .tup ks => (keysD ks).map fun ks => luk kvs ks
  | _, _ => none
def oInD (neg : Bool) (x y : D) : Option Rv := (dGet y x).map fun o => .d (.bl (neg != o.isSome))
def oIn (neg : Bool) : D → D → Option Rv := fun x y => (oInL neg x y).or ((oInS neg x y).or (oInD neg x y))
section
variable {Γ : Gm} {w : Wd}
theorem sc_flat {d : D} {v : V} (e : d.sc = some v) : flatV v = true := by
  cases d <;> simp only [D.sc, Option.some.injEq, reduceCtorEq] at e <;> subst e <;> rfl
theorem RepL.scL {R : List Addr} {F : Hp} : ∀ {xs : List D} {ys vs : List V}, scL xs = some vs → RepL Γ R F xs ys → ys = vs ∧ vs.all flatV = true
  | [], ys, vs, e, h => by
    rw [DV.scL] at e
    cases e
    rw [RepL] at h
    exact ⟨h, rfl⟩
  | x :: xs, ys, vs, e, h => by
    rw [DV.scL] at e
    split at e
    · rename_i p ps e1 e2
      cases e
      rw [RepL] at h
      obtain ⟨y, r, e3, q, l⟩ := h
      obtain ⟨e4, f⟩ := RepL.scL e2 l
      subst e3 e4
      rw [Rep.scal e1 q]
      exact ⟨rfl, by rw [List.all_cons, sc_flat e1, f]; rfl⟩
    · cases e
theorem top_seq (g : Good w) {y : D} {xs : List D} {v : V} (e : y.items = some xs) (h : Top Γ w y v) : ∃ a ys, v = .ref a ∧ (SqL Γ.K w.H a ys ∨ SqT Γ.K w.H a ys) ∧ RepL Γ w.R w.F xs ys := by
  cases y with
  | lst zs => cases e; obtain ⟨a, ys, e1, q, l⟩ := h; exact ⟨a, ys, e1, .inl (SqL.of q), l⟩
  | tup zs => cases e; obtain ⟨a, ys, e1, q, l⟩ := top_tup h; exact ⟨a, ys, e1, .inr (SqT.of (g.sub _ _ q)), l⟩
  | kl zs => cases e; obtain ⟨a, ys, e1, q, l⟩ := top_kl h; exact ⟨a, ys, e1, .inl (SqL.up g.sub q), l⟩
  | kt zs => cases e; obtain ⟨a, ys, e1, q, l⟩ := top_kt h; exact ⟨a, ys, e1, .inr (SqT.up g.sub q), l⟩
  | _ => cases e
theorem bInL (neg : Bool) : BinOk Γ (oInL neg) (rIn Γ.K neg) := by
  intro w v1 v2 d1 d2 Q gd t1 t2 q
  unfold oInL at q
  split at q
  · rename_i x vs e1 e2
    obtain ⟨xs, e3, e4⟩ := Option.bind_eq_some_iff.mp e2
    obtain ⟨a, ys, ev, hs, l⟩ := top_seq gd e3 t2
    obtain ⟨e5, f⟩ := l.scL e4
    subst e5
    rw [t1.scal e1]
    exact ⟨a, ys, ev, hs, sc_flat e1, f, q.d gd rep_bl⟩
  · exact q.elim
theorem bInS : BinOk Γ (oInS false) (fun x y H Q => ∃ i j, x = .str i ∧ y = .str j ∧ Q (.bl (!(Builtin.Str.occurrences j i 0 j.length 1).isEmpty)) H) := by
  intro w v1 v2 d1 d2 Q gd t1 t2 q
  cases d1 with
  | str i =>
    cases d2 with
    | str j =>
      have := q.d gd rep_bl
      exact ⟨i, j, top_str t1, top_str t2, by simpa using this⟩
    | _ => exact q.elim
  | _ => exact q.elim
theorem bNotInS : BinOk Γ (oInS true) (fun x y H Q => ∃ i j, x = .str i ∧ y = .str j ∧ Q (.bl (!(!(Builtin.Str.occurrences j i 0 j.length 1).isEmpty))) H) := by
  intro w v1 v2 d1 d2 Q gd t1 t2 q
  cases d1 with
  | str i =>
    cases d2 with
    | str j =>
      have := q.d gd rep_bl
      exact ⟨i, j, top_str t1, top_str t2, by simpa using this⟩
    | _ => exact q.elim
  | _ => exact q.elim
/-- what is at a key: nothing on both sides, or a datum and its value -/
def RepO (Γ : Gm) (R : List Addr) (F : Hp) : Option D → Option V → Prop
  | some d, some v => Rep Γ R F d v
  | none, none => True
  | _, _ => False
theorem RepO.some_of {R : List Addr} {F : Hp} {o : Option D} {o' : Option V} (h : RepO Γ R F o o') : o.isSome = o'.isSome := by
  cases o <;> cases o' <;> first | rfl | exact h.elim
theorem RepK.luk {R : List Addr} {F : Hp} (k : Key) : ∀ {kvs : List (Key × D)} {ys : List (Key × V)}, RepK Γ R F kvs ys → RepO Γ R F (DV.luk kvs k) (valV ys k)
  | [], ys, h => by rw [RepK] at h; subst h; exact True.intro
  | (j, x) :: xs, ys, h => by
    rw [RepK] at h
    obtain ⟨y, r, e, q, l⟩ := h
    subst e
    by_cases z : j = k
    · rw [valV_pos (p := (j, y)) z]
      simp [DV.luk, z, RepO, q]
    · rw [valV_neg (p := (j, y)) z]
      have ih := RepK.luk k l
      simpa [DV.luk, List.find?_cons, z] using ih
theorem RepT.luk {R : List Addr} {F : Hp} (k : List Key) : ∀ {kvs : List (List Key × D)} {ys : List (List Key × V)}, RepT Γ R F kvs ys → RepO Γ R F (DV.luk kvs k) (valV ys k)
  | [], ys, h => by rw [RepT] at h; subst h; exact True.intro
  | (j, x) :: xs, ys, h => by
    rw [RepT] at h
    obtain ⟨y, r, e, q, l⟩ := h
    subst e
    by_cases z : j = k
    · rw [valV_pos (p := (j, y)) z]
      simp [DV.luk, z, RepO, q]
    · rw [valV_neg (p := (j, y)) z]
      have ih := RepT.luk k l
      simpa [DV.luk, List.find?_cons, z] using ih
theorem keyD_of {R : List Addr} {F : Hp} {d : D} {k : Key} {v : V} (e : keyD d = some k) (h : Rep Γ R F d v) : v = kV k := by
  cases d <;> simp only [keyD, Option.some.injEq, reduceCtorEq] at e <;> subst e <;> rw [Rep] at h <;> exact h
theorem keysD_of {R : List Addr} {F : Hp} : ∀ {ds : List D} {ks : List Key} {vs : List V}, keysD ds = some ks → RepL Γ R F ds vs → vs = ks.map kV
  | [], ks, vs, e, h => by rw [keysD] at e; cases e; rw [RepL] at h; exact h
  | x :: xs, ks, vs, e, h => by
    rw [keysD] at e
    split at e
    · rename_i p ps e1 e2
      cases e
      rw [RepL] at h
      obtain ⟨y, r, e3, q, l⟩ := h
      rw [e3, keyD_of e1 q, keysD_of e2 l]
      rfl
    · cases e
theorem Top.rep_of {d : D} {v : V} (h : Top Γ w d v) (n : d.items = none ∨ (∃ xs, d = .tup xs)) (n2 : ∀ k, d ≠ .dK k) (n3 : ∀ k, d ≠ .dT k) : Rep Γ w.R w.F d v := by
  cases d with
  | lst xs => rcases n with n | ⟨_, n⟩ <;> cases n
  | dK k => exact absurd rfl (n2 k)
  | dT k => exact absurd rfl (n3 k)
  | _ => exact h
theorem dGet_ok (g : Good w) {y x : D} {o : Option D} {vy vx : V} (e : dGet y x = some o) (ty : Top Γ w y vy) (tx : Top Γ w x vx) : ∃ a o', vy = .ref a ∧ DGet w.H a vx o' ∧ RepO Γ w.R w.F o o' := by
  cases y with
  | dK kvs =>
    obtain ⟨k, e1, e2⟩ := Option.map_eq_some_iff.mp e
    subst e2
    obtain ⟨a, ys, ev, h, l⟩ := ty
    have rx : Rep Γ w.R w.F x vx := tx.rep_of (by cases x <;> first | exact .inl rfl | (simp [keyD] at e1)) (fun k z => by subst z; simp [keyD] at e1) (fun k z => by subst z; simp [keyD] at e1)
    rw [keyD_of e1 rx]
    exact ⟨a, _, ev, DGet.k h, l.luk k⟩
  | dT kvs =>
    cases x with
    | tup ks =>
      obtain ⟨k, e1, e2⟩ := Option.map_eq_some_iff.mp e
      subst e2
      obtain ⟨a, ys, ev, h, l⟩ := ty
      obtain ⟨b, zs, ex, hb, lb⟩ := top_tup tx
      have ez := keysD_of e1 lb
      subst ez ex
      exact ⟨a, _, ev, DGet.t h (g.sub _ _ hb), l.luk k⟩
    | _ => cases e
  | _ => cases e
/-- y in d, by values -/
def rInD (neg : Bool) : R2 := fun y x H Q => ∃ a o, x = .ref a ∧ DGet H a y o ∧ Q (.bl (if neg = true then !o.isSome else o.isSome)) H
theorem op_inD {X : Cx} (hu : X.A.units + 1 < cLine) : OpR X (compareOp .In) (rInD false) := by
  intro pins s σ H x y v u Q I rx ry h
  obtain ⟨a, o, e, g, q⟩ := h
  subst e
  cases ry
  exact d_in hu I g rx fun s' I' => ⟨.bl _, H, I', rfl, q⟩
theorem op_notInD {X : Cx} (hu : X.A.units + 1 < cLine) : OpR X (compareOp .NotIn) (rInD true) := by
  intro pins s σ H x y v u Q I rx ry h
  obtain ⟨a, o, e, g, q⟩ := h
  subst e
  cases ry
  exact d_notIn hu I g rx fun s' I' => ⟨.bl _, H, I', rfl, q⟩
theorem bInD (neg : Bool) : BinOk Γ (oInD neg) (rInD neg) := by
  intro w v1 v2 d1 d2 Q gd t1 t2 q
  unfold oInD at q
  cases e : dGet d2 d1 with
  | none => rw [e] at q; exact q.elim
  | some o =>
    rw [e] at q
    obtain ⟨a, o', ev, g, ro⟩ := dGet_ok gd e t2 t1
    refine ⟨a, o', ev, g, ?_⟩
    have z := q.d gd rep_bl
    rw [ro.some_of] at z
    cases neg <;> simpa using z
end

/-! ### is -/
def D.isNon : D → Bool
  | .non => true
  | _ => false
def oIsN (neg : Bool) (x y : D) : Option Rv := if y.isNon = true then some (.d (.bl (neg != x.isNon))) else none
def oIsB (neg : Bool) : D → D → Option Rv
  | .bl a, .bl b => some (.d (.bl (neg != decide (a = b))))
  | _, _ => none
def oIs (neg : Bool) : D → D → Option Rv := fun x y => (oIsN neg x y).or (oIsB neg x y)
section
variable {Γ : Gm} {w : Wd}
theorem top_isNon {x : D} {v : V} (h : Top Γ w x v) : decide (v = .non) = x.isNon := by
  cases x with
  | lst _ => obtain ⟨a, ys, e, _⟩ := h; subst e; rfl
  | dK _ => obtain ⟨a, ys, e, _⟩ := h; subst e; rfl
  | dT _ => obtain ⟨a, ys, e, _⟩ := h; subst e; rfl
  | tup _ => obtain ⟨a, ys, e, _⟩ := top_tup h; subst e; rfl
  | kl _ => obtain ⟨a, ys, e, _⟩ := top_kl h; subst e; rfl
  | kt _ => obtain ⟨a, ys, e, _⟩ := top_kt h; subst e; rfl
  | non => rw [top_non h]; rfl
  | bl _ => rw [top_bl h]; rfl
  | int _ => rw [top_int h]; rfl
  | str _ => rw [top_str h]; rfl
  | ty _ => rw [top_ty h]; rfl
  | cl _ => rw [top_cl h]; rfl
  | ins _ _ =>
    have h : Rep Γ w.R w.F _ v := h
    rw [Rep] at h
    obtain ⟨a, dx, gs, e, _⟩ := h
    subst e; rfl
  | ob _ =>
    have h : Rep Γ w.R w.F _ v := h
    rw [Rep] at h
    obtain ⟨a, _, e⟩ := h
    subst e; rfl
theorem bIsN : BinOk Γ (oIsN false) (fun x y H Q => y = .non ∧ Q (.bl (decide (x = .non))) H) := by
  intro w v1 v2 d1 d2 Q gd t1 t2 q
  unfold oIsN at q
  split at q
  · rename_i h
    have e := top_isNon t2
    rw [h] at e
    refine ⟨of_decide_eq_true e, ?_⟩
    rw [top_isNon t1]
    have z := q.d gd rep_bl
    simpa using z
  · exact q.elim
theorem bNotN : BinOk Γ (oIsN true) (fun x y H Q => y = .non ∧ Q (.bl (!decide (x = .non))) H) := by
  intro w v1 v2 d1 d2 Q gd t1 t2 q
  unfold oIsN at q
  split at q
  · rename_i h
    have e := top_isNon t2
    rw [h] at e
    refine ⟨of_decide_eq_true e, ?_⟩
    rw [top_isNon t1]
    have z := q.d gd rep_bl
    simpa using z
  · exact q.elim
theorem bIsB : BinOk Γ (oIsB false) rIsB := by
  intro w v1 v2 d1 d2 Q gd t1 t2 q
  unfold oIsB at q
  split at q
  · rename_i a b
    have z := q.d gd rep_bl
    exact ⟨a, b, top_bl t1, top_bl t2, by simpa using z⟩
  · exact q.elim
theorem bNotB : BinOk Γ (oIsB true) rNotB := by
  intro w v1 v2 d1 d2 Q gd t1 t2 q
  unfold oIsB at q
  split at q
  · rename_i a b
    have z := q.d gd rep_bl
    exact ⟨a, b, top_bl t1, top_bl t2, by simpa using z⟩
  · exact q.elim
end

/-! ### a op b op c -/
def cChain (g g' : D → D → Option Rv) (ca cb cc : M Rv) : M Rv := fun ρ S => (ca ρ S).bind fun ra ρ S => (cb ρ S).bind fun rb ρ S =>
  match cont ρ S ra, cont ρ S rb with
  | some d1, some d2 => (match g d1 d2 with
    | some (.d (.bl true)) => (cc ρ S).bind fun rc ρ S => (match cont ρ S rb, cont ρ S rc with
      | some d2, some d3 => lift (g' d2 d3) ρ S
      | _, _ => .bad)
    | some (.d (.bl false)) => .ok (.d (.bl false)) ρ S false
    | _ => .bad)
  | _, _ => .bad
section
variable {X : Cx} {Γ : Gm} {W : WX} {a b c : Expr} {ca cb cc : M Rv} {pos : Pos}
theorem chain_core {g g' : D → D → Option Rv} {r r' : R2} (hg : BinOk Γ g r) (hg' : BinOk Γ g' r') {σ : L2.St} {H : Hp} {Q : VK} (h : tM Γ W (cChain g g' ca cb cc) σ H Q) : tChain r r' (tM Γ W ca) (tM Γ W cb) (tM Γ W cc) σ H Q := by
  obtain ⟨F, E, C, R, ρ, S, rel, ck⟩ := h
  refine ⟨F, E, C, R, ρ, S, rel, CK.bind ck fun ra ρ1 S1 w1 v1 x1 rel1 o1 ck1 => ?_⟩
  refine ⟨w1.F, w1.E, w1.C, w1.R, ρ1, S1, rel1, CK.bind ck1 fun rb ρ2 S2 w2 v2 x2 rel2 o2 ck2 => ?_⟩
  cases e1 : cont ρ2 S2 ra with
  | none => simp only [e1] at ck2; exact ck2.elim
  | some d1 =>
    cases e2 : cont ρ2 S2 rb with
    | none => simp only [e1, e2] at ck2; exact ck2.elim
    | some d2 =>
      simp only [e1, e2] at ck2
      have t1 := rel2.top (o1.up x2) e1
      have t2 := rel2.top o2 e2
      split at ck2
      · rename_i eg
        refine hg w2 v1 v2 d1 d2 _ rel2.good t1 t2 ?_
        rw [eg]
        intro w3 v3 x3 eE eC eR g3 ok3
        have ok3 : Rep Γ w3.R w3.F (.bl true) v3 := ok3
        rw [Rep] at ok3
        subst ok3
        have rel3 := rel2.move x3.gr g3 eE eC eR
        have ck3 := CK.ext (t := false) x3 (fun _ => eE) (by rw [Res.addt_false]; exact ck2)
        refine ⟨true, rfl, ?_⟩
        rw [if_pos rfl]
        refine ⟨w3.F, w3.E, w3.C, w3.R, ρ2, S2, rel3, CK.bind ck3 fun rc ρ4 S4 w4 v4 x4 rel4 o4 ck4 => ?_⟩
        cases e3 : cont ρ4 S4 rb with
        | none => simp only [e3] at ck4; exact ck4.elim
        | some d3 =>
          cases e4 : cont ρ4 S4 rc with
          | none => simp only [e3, e4] at ck4; exact ck4.elim
          | some d4 =>
            simp only [e3, e4] at ck4
            exact hg' w4 v2 v4 d3 d4 Q rel4.good (rel4.top ((o2.up x3).up x4) e3) (rel4.top o4 e4) (ck4.prim rel4)
      · rename_i eg
        refine hg w2 v1 v2 d1 d2 _ rel2.good t1 t2 ?_
        rw [eg]
        intro w3 v3 x3 eE eC eR g3 ok3
        have ok3 : Rep Γ w3.R w3.F (.bl false) v3 := ok3
        rw [Rep] at ok3
        subst ok3
        refine ⟨false, rfl, ?_⟩
        rw [if_neg Bool.false_ne_true]
        exact ck2 w3 (.bl false) x3 (fun _ => eE) (rel2.move x3.gr g3 eE eC eR) (rep_bl (Γ := Γ) (R := w3.R) (F := w3.F))
      · exact ck2.elim
theorem pm_chain {op op' : CmpOp} {g g' : D → D → Option Rv} {r r' : R2} (ho : OpR X (compareOp op) r) (ho' : OpR X (compareOp op') r') (hg : BinOk Γ g r) (hg' : BinOk Γ g' r')
    (ha : PE X a (tM Γ W ca)) (hb : PE X b (tM Γ W cb)) (hc : PE X c (tM Γ W cc)) (hm : lastMarks [op, op'] [b, c] = false) : PE X (.Compare a [op, op'] [b, c] pos) (tM Γ W (cChain g g' ca cb cc)) :=
  (pe_chain ho ho' ha hb hc hm).imp fun _ _ _ h => chain_core hg hg' h
end

/-! ### truth -/
def truD : D → Option Bool
  | .non => some false
  | .bl b => some b
  | .int i => some (i != 0)
  | .str x => if x.length ≤ sizeLine then some ((x.length : Int) != 0) else none
  | .lst xs => some (!xs.isEmpty)
  | .tup xs => some (!xs.isEmpty)
  | .kl xs => some (!xs.isEmpty)
  | .kt xs => some (!xs.isEmpty)
  | .dK xs => some (!xs.isEmpty)
  | _ => none
def cTru (c : M Rv) : M Bool := fun ρ S => (c ρ S).bind fun r ρ S => match (cont ρ S r).bind truD with
  | some b => .ok b ρ S false
  | none => .bad
section
variable {Γ : Gm} {w : Wd}
theorem RepL.emp {R : List Addr} {F : Hp} {xs : List D} {ys : List V} (h : RepL Γ R F xs ys) : ys.isEmpty = xs.isEmpty := by
  cases xs with
  | nil => rw [RepL] at h; subst h; rfl
  | cons x xs => rw [RepL] at h; obtain ⟨y, r, e, _⟩ := h; subst e; rfl
theorem RepK.emp {R : List Addr} {F : Hp} {xs : List (Key × D)} {ys : List (Key × V)} (h : RepK Γ R F xs ys) : ys.isEmpty = xs.isEmpty := by
  cases xs with
  | nil => rw [RepK] at h; subst h; rfl
  | cons x xs => obtain ⟨k, x⟩ := x; rw [RepK] at h; obtain ⟨y, r, e, _⟩ := h; subst e; rfl
theorem tru_top {K : PySem.W.Frag} (hK : Γ.K = K) (g : Good w) {d : D} {v : V} {b : Bool} (e : truD d = some b) (h : Top Γ w d v) : TruV K v w.H b := by
  subst hK
  cases d with
  | non => cases e; rw [top_non h]; rfl
  | bl _ => cases e; rw [top_bl h]; rfl
  | int _ => cases e; rw [top_int h]; rfl
  | str x =>
    rw [top_str h]
    simp only [truD] at e
    split at e
    · cases e; exact ⟨by assumption, rfl⟩
    · cases e
  | lst _ => cases e; obtain ⟨a, ys, e, q, l⟩ := h; subst e; exact .inl ⟨ys, SqL.of q, by rw [l.emp]⟩
  | kl _ => cases e; obtain ⟨a, ys, e, q, l⟩ := top_kl h; subst e; exact .inl ⟨ys, SqL.up g.sub q, by rw [l.emp]⟩
  | tup _ => cases e; obtain ⟨a, ys, e, q, l⟩ := top_tup h; subst e; exact .inr (.inl ⟨ys, SqT.of (g.sub _ _ q), by rw [l.emp]⟩)
  | kt _ => cases e; obtain ⟨a, ys, e, q, l⟩ := top_kt h; subst e; exact .inr (.inl ⟨ys, SqT.up g.sub q, by rw [l.emp]⟩)
  | dK _ => cases e; obtain ⟨a, ys, e, q, l⟩ := h; subst e; exact .inr (.inr ⟨ys, q, by rw [l.emp]⟩)
  | _ => cases e
end
section
variable {X : Cx} {Γ : Gm} {W : WX} {a b c e : Expr} {ca cb cc : M Rv} {ta tb : M Bool} {pos : Pos} {rest : List Expr} {w : Wd} {σ : L2.St}
/-- behind a truth -/
theorem CKb.tru {c : M Rv} {ρ S : List Sl} {Q : Bool → Hp → Prop} (hK : Γ.K = X.K) (h : CKb Γ W w σ Q (cTru c ρ S)) : CK Γ W w σ (fun v H => ∃ k, TruV X.K v H k ∧ Q k H) (c ρ S) := by
  unfold cTru at h
  cases q : c ρ S with
  | ok r ρ1 S1 t =>
    rw [q] at h
    intro w1 v x1 e1 r1 o1
    rw [Res.bind_ok] at h
    have h1 := CKb.ext x1 e1 h
    cases e2 : (cont ρ1 S1 r).bind truD with
    | none => simp only [e2] at h1; exact h1.elim
    | some k =>
      simp only [e2] at h1
      obtain ⟨d, e3, e4⟩ := Option.bind_eq_some_iff.mp e2
      exact ⟨k, tru_top hK r1.good e4 (r1.top o1 e3), h1 w1 (.refl w1) (fun _ => rfl) r1⟩
  | ex y ρ1 S1 => rw [q] at h; exact h
  | bad => rw [q] at h; exact h
theorem pm_test (hK : Γ.K = X.K) (h : PE X e (tM Γ W ca)) (he : ∀ whole, isTrue e X.env whole = (do let v ← whole; standAt e.pos; holding [v] (truthy v))) : PT X e (tMb Γ W (cTru ca)) :=
  (pt_truth h he).imp fun _ _ _ ⟨F, E, C, R, ρ, S, rel, ck⟩ => ⟨F, E, C, R, ρ, S, rel, ck.tru hK⟩
def cNotB (c : M Bool) : M Bool := fun ρ S => (c ρ S).bind fun b ρ S => .ok (!b) ρ S false
theorem CKb.bind {r : Res Bool} {f : Bool → List Sl → List Sl → Res Bool} {Q Q1 : Bool → Hp → Prop} (h : CKb Γ W w σ Q (r.bind f))
    (k : ∀ a ρ S w', Ext w w' → Rel Γ w' ρ S σ → CKb Γ W w' σ Q (f a ρ S) → Q1 a w'.H) : CKb Γ W w σ Q1 r := by
  cases r with
  | ok a ρ S t => exact fun w2 x2 e2 R2 => k a ρ S w2 x2 R2 (CKb.ext x2 e2 h)
  | ex y ρ S => exact h
  | bad => exact h
theorem CKb.bindV {r : Res Bool} {f : Bool → List Sl → List Sl → Res Rv} {Q : VK} {Q1 : Bool → Hp → Prop} (h : CK Γ W w σ Q (r.bind f))
    (k : ∀ a ρ S w', Ext w w' → Rel Γ w' ρ S σ → CK Γ W w' σ Q (f a ρ S) → Q1 a w'.H) : CKb Γ W w σ Q1 r := by
  cases r with
  | ok a ρ S t => exact fun w2 x2 e2 R2 => k a ρ S w2 x2 R2 (CK.ext x2 e2 h)
  | ex y ρ S => exact h
  | bad => exact h
theorem pm_not (h : PT X e (tMb Γ W ta)) : PT X (.UnaryOp .Not e pos) (tMb Γ W (cNotB ta)) :=
  (pt_not h).imp fun _ _ _ ⟨F, E, C, R, ρ, S, rel, ck⟩ => ⟨F, E, C, R, ρ, S, rel, CKb.bind ck fun a ρ1 S1 w1 x1 rel1 ck1 => ck1 w1 (.refl _) (fun _ => rfl) rel1⟩
def cAndB (c d : M Bool) : M Bool := fun ρ S => (c ρ S).bind fun b ρ S => if b = true then d ρ S else .ok false ρ S false
def cOrB (c d : M Bool) : M Bool := fun ρ S => (c ρ S).bind fun b ρ S => if b = true then .ok true ρ S false else d ρ S
theorem pmw_and1 (ha : PT X a (tMb Γ W ta)) : PW X (.BoolOp .And [a] pos) (tMb Γ W ta) := pw_and1 ha
theorem pmw_or1 (ha : PT X a (tMb Γ W ta)) : PW X (.BoolOp .Or [a] pos) (tMb Γ W ta) := pw_or1 ha
theorem _root_.L2.PW.imp {X : Cx} {e : Expr} {t t' : TT} (h : PW X e t) (k : ∀ σ H Q, t' σ H Q → t σ H Q) : PW X e t' := ⟨fun wh pins s σ H Q I hw => h.run wh pins s σ H Q I (k σ H Q hw)⟩
theorem pmw_and (ha : PT X a (tMb Γ W ta)) (hb : PW X (.BoolOp .And (b :: rest) pos) (tMb Γ W tb)) : PW X (.BoolOp .And (a :: b :: rest) pos) (tMb Γ W (cAndB ta tb)) :=
  (pw_and ha hb).imp fun _ _ _ ⟨F, E, C, R, ρ, S, rel, ck⟩ => ⟨F, E, C, R, ρ, S, rel, CKb.bind ck fun a ρ1 S1 w1 x1 rel1 ck1 => by
    cases a with
    | true => exact ⟨w1.F, w1.E, w1.C, w1.R, ρ1, S1, rel1, ck1⟩
    | false => exact ck1 w1 (.refl _) (fun _ => rfl) rel1⟩
theorem pmw_or (ha : PT X a (tMb Γ W ta)) (hb : PW X (.BoolOp .Or (b :: rest) pos) (tMb Γ W tb)) : PW X (.BoolOp .Or (a :: b :: rest) pos) (tMb Γ W (cOrB ta tb)) :=
  (pw_or ha hb).imp fun _ _ _ ⟨F, E, C, R, ρ, S, rel, ck⟩ => ⟨F, E, C, R, ρ, S, rel, CKb.bind ck fun a ρ1 S1 w1 x1 rel1 ck1 => by
    cases a with
    | true => exact ck1 w1 (.refl _) (fun _ => rfl) rel1
    | false => exact ⟨w1.F, w1.E, w1.C, w1.R, ρ1, S1, rel1, ck1⟩⟩
/-! as values -/
def cOr (ca cb : M Rv) : M Rv := fun ρ S => (ca ρ S).bind fun ra ρ S => match (cont ρ S ra).bind truD with
  | some true => .ok ra ρ S false
  | some false => cb ρ S
  | none => .bad
def cAnd (ca cb : M Rv) : M Rv := fun ρ S => (ca ρ S).bind fun ra ρ S => match (cont ρ S ra).bind truD with
  | some true => cb ρ S
  | some false => .ok ra ρ S false
  | none => .bad
def cNot (ca : M Rv) : M Rv := fun ρ S => (ca ρ S).bind fun ra ρ S => match (cont ρ S ra).bind truD with
  | some b => .ok (.d (.bl (!b))) ρ S false
  | none => .bad
def cIf (t : M Bool) (ca cb : M Rv) : M Rv := fun ρ S => (t ρ S).bind fun b ρ S => if b = true then ca ρ S else cb ρ S
theorem truD_fr {ρ S : List Sl} {ra : Rv} {k : Bool} (e : (cont ρ S ra).bind truD = some k) : True := trivial
theorem pm_and (hK : Γ.K = X.K) (ha : PE X a (tM Γ W ca)) (hb : PE X (.BoolOp .And (b :: rest) pos) (tM Γ W cb)) : PE X (.BoolOp .And (a :: b :: rest) pos) (tM Γ W (cAnd ca cb)) :=
  (pe_andT ha hb).imp fun _ _ Q ⟨F, E, C, R, ρ, S, rel, ck⟩ => ⟨F, E, C, R, ρ, S, rel, by
    unfold cAnd at ck
    cases q : ca ρ S with
    | ok ra ρ1 S1 t =>
      rw [q] at ck
      intro w1 v1 x1 e1 rel1 o1
      rw [Res.bind_ok] at ck
      have ck1 := CK.ext x1 e1 ck
      cases e2 : (cont ρ1 S1 ra).bind truD with
      | none => simp only [e2] at ck1; exact ck1.elim
      | some k =>
        obtain ⟨d, e3, e4⟩ := Option.bind_eq_some_iff.mp e2
        refine ⟨k, tru_top hK rel1.good e4 (rel1.top o1 e3), ?_⟩
        simp only [e2] at ck1 ck
        cases k with
        | true => exact ⟨w1.F, w1.E, w1.C, w1.R, ρ1, S1, rel1, ck1⟩
        | false => exact ck w1 v1 x1 (fun z => e1 (by simpa using z)) rel1 o1
    | ex y ρ1 S1 => rw [q] at ck; exact ck
    | bad => rw [q] at ck; exact ck⟩
theorem pm_or (hK : Γ.K = X.K) (ha : PE X a (tM Γ W ca)) (hb : PE X (.BoolOp .Or (b :: rest) pos) (tM Γ W cb)) : PE X (.BoolOp .Or (a :: b :: rest) pos) (tM Γ W (cOr ca cb)) :=
  (pe_orT ha hb).imp fun _ _ Q ⟨F, E, C, R, ρ, S, rel, ck⟩ => ⟨F, E, C, R, ρ, S, rel, by
    unfold cOr at ck
    cases q : ca ρ S with
    | ok ra ρ1 S1 t =>
      rw [q] at ck
      intro w1 v1 x1 e1 rel1 o1
      rw [Res.bind_ok] at ck
      have ck1 := CK.ext x1 e1 ck
      cases e2 : (cont ρ1 S1 ra).bind truD with
      | none => simp only [e2] at ck1; exact ck1.elim
      | some k =>
        obtain ⟨d, e3, e4⟩ := Option.bind_eq_some_iff.mp e2
        refine ⟨k, tru_top hK rel1.good e4 (rel1.top o1 e3), ?_⟩
        simp only [e2] at ck1 ck
        cases k with
        | false => exact ⟨w1.F, w1.E, w1.C, w1.R, ρ1, S1, rel1, ck1⟩
        | true => exact ck w1 v1 x1 (fun z => e1 (by simpa using z)) rel1 o1
    | ex y ρ1 S1 => rw [q] at ck; exact ck
    | bad => rw [q] at ck; exact ck⟩
theorem pm_one {op} (h : PE X a (tM Γ W ca)) : PE X (.BoolOp op [a] pos) (tM Γ W ca) := pe_one h
theorem pm_notV (hK : Γ.K = X.K) (ha : PE X a (tM Γ W ca)) : PE X (.UnaryOp .Not a pos) (tM Γ W (cNot ca)) :=
  (pe_notT ha).imp fun _ _ Q ⟨F, E, C, R, ρ, S, rel, ck⟩ => ⟨F, E, C, R, ρ, S, rel, CK.bind ck fun ra ρ1 S1 w1 v1 x1 rel1 o1 ck1 => by
    cases e2 : (cont ρ1 S1 ra).bind truD with
    | none => simp only [e2] at ck1; exact ck1.elim
    | some k =>
      obtain ⟨d, e3, e4⟩ := Option.bind_eq_some_iff.mp e2
      simp only [e2] at ck1
      exact ⟨k, tru_top hK rel1.good e4 (rel1.top o1 e3), ck1 w1 _ (.refl _) (fun _ => rfl) rel1 (rep_bl (Γ := Γ) (R := w1.R) (F := w1.F))⟩⟩
theorem pm_if (ht : PT X c (tMb Γ W ta)) (ha : PE X a (tM Γ W ca)) (hb : PE X b (tM Γ W cb)) : PE X (.IfExp c a b pos) (tM Γ W (cIf ta ca cb)) :=
  (pe_ifExp ht ha hb).imp fun _ _ Q ⟨F, E, C, R, ρ, S, rel, ck⟩ => ⟨F, E, C, R, ρ, S, rel, CKb.bindV ck fun k ρ1 S1 w1 x1 rel1 ck1 => by
    cases k with
    | true => exact ⟨w1.F, w1.E, w1.C, w1.R, ρ1, S1, rel1, ck1⟩
    | false => exact ⟨w1.F, w1.E, w1.C, w1.R, ρ1, S1, rel1, ck1⟩⟩
end
end DV

/-! DVf: argument lists, displays, subscripts, slices, calls of built-ins, methods of built-in types. -/
namespace DV
open PySem PySem.Spec PyProof.Rows L2

/-! ### argument lists: data -/
def cNilD : M (List D) := fun ρ S => .ok [] ρ S false
def cConsD (c : M Rv) (cs : M (List D)) : M (List D) := fun ρ S => (cD c ρ S).bind fun d ρ S => (cs ρ S).bind fun ds ρ S => .ok (d :: ds) ρ S false
/-! ### argument lists: things as they stand -/
def RvL (Γ : Gm) (w0 w : Wd) (σ : L2.St) : List Rv → List V → Prop
  | [], vs => vs = []
  | r :: rs, vs => ∃ v vs', vs = v :: vs' ∧ RvOk Γ w0 w σ r v ∧ RvL Γ w0 w σ rs vs'
section
variable (Γ : Gm) (W : WX)
def CKr (w : Wd) (σ : L2.St) (Q : List V → Hp → Prop) : Res (List Rv) → Prop
  | .ok rs ρ' S' t => ∀ w' vs, Ext w w' → (t = false → w'.E = w.E) → Rel Γ w' ρ' S' σ → RvL Γ w w' σ rs vs → Q vs w'.H
  | .ex x ρ' S' => ∀ w' cls d, Ext w w' → Rel Γ w' ρ' S' σ → XOk Γ w' x cls d → W cls d σ w'.H
  | .bad => False
def tMr (c : M (List Rv)) : TA := fun σ H Q => ∃ F E C R ρ S, Rel Γ ⟨F, E, C, R, H⟩ ρ S σ ∧ CKr Γ W ⟨F, E, C, R, H⟩ σ Q (c ρ S)
end
def cNilR : M (List Rv) := fun ρ S => .ok [] ρ S false
def cConsR (c : M Rv) (cs : M (List Rv)) : M (List Rv) := fun ρ S => (c ρ S).bind fun d ρ S => (cs ρ S).bind fun ds ρ S => .ok (d :: ds) ρ S false
section
variable {Γ : Gm} {W : WX} {w w0 w1 w2 : Wd} {σ : L2.St} {ρ S : List Sl} {Q : VK}
theorem RvL.up (x : Ext w w1) : ∀ {rs : List Rv} {vs : List V}, RvL Γ w0 w σ rs vs → RvL Γ w0 w1 σ rs vs
  | [], _, h => h
  | _ :: _, _, ⟨v, vs', e, h, l⟩ => ⟨v, vs', e, h.up x, l.up x⟩
theorem RvL.base (x : Ext w0 w1) : ∀ {rs : List Rv} {vs : List V}, RvL Γ w1 w σ rs vs → RvL Γ w0 w σ rs vs
  | [], _, h => h
  | _ :: _, _, ⟨v, vs', e, h, l⟩ => ⟨v, vs', e, h.base x, l.base x⟩
theorem CKr.ext {t : Bool} {Q : List V → Hp → Prop} {r : Res (List Rv)} (x : Ext w w1) (e : t = false → w1.E = w.E) (h : CKr Γ W w σ Q (r.addt t)) : CKr Γ W w1 σ Q r := by
  cases r with
  | ok a ρ S t' =>
    refine fun w2 v x2 e2 R2 o2 => h w2 v (x.trans x2) (fun z => ?_) R2 (o2.base x)
    obtain ⟨z1, z2⟩ := Bool.or_eq_false_iff.mp z
    rw [e2 z2, e z1]
  | ex y ρ S => exact fun w2 cls d x2 R2 o2 => h w2 cls d (x.trans x2) R2 o2
  | bad => exact h
/-- the datum of an expression, then more -/
theorem CKl.datum {c : M Rv} {f : D → List Sl → List Sl → Res (List D)} {Q : List V → Hp → Prop} {Q1 : VK} (h : CKl Γ W w σ Q ((cD c ρ S).bind f))
    (k : ∀ d ρ' S' w' v, Ext w w' → Rel Γ w' ρ' S' σ → Rep Γ w'.R w'.F d v → CKl Γ W w' σ Q (f d ρ' S') → Q1 v w'.H) : CK Γ W w σ Q1 (c ρ S) := by
  refine CKd.of (Qd := fun _ _ _ => True) ?_ fun d ρ' S' t w' v x e r o q => ?_
  · cases q : cD c ρ S with
    | ok a ρ1 S1 t => exact fun _ _ _ _ _ _ => True.intro
    | ex y ρ1 S1 => rw [q] at h; exact h
    | bad => rw [q] at h; exact h
  · rw [q, Res.bind_ok] at h
    exact k d ρ' S' w' v x r o (CKl.ext x e h)
theorem CK.datum {c : M Rv} {f : D → List Sl → List Sl → Res Rv} {Q1 : VK} (h : CK Γ W w σ Q ((cD c ρ S).bind f))
    (k : ∀ d ρ' S' w' v, Ext w w' → Rel Γ w' ρ' S' σ → Rep Γ w'.R w'.F d v → CK Γ W w' σ Q (f d ρ' S') → Q1 v w'.H) : CK Γ W w σ Q1 (c ρ S) := by
  refine CKd.of (Qd := fun _ _ _ => True) ?_ fun d ρ' S' t w' v x e r o q => ?_
  · cases q : cD c ρ S with
    | ok a ρ1 S1 t => exact fun _ _ _ _ _ _ => True.intro
    | ex y ρ1 S1 => rw [q] at h; exact h
    | bad => rw [q] at h; exact h
  · rw [q, Res.bind_ok] at h
    exact k d ρ' S' w' v x r o (CK.ext x e h)
theorem CKl.bind {r : Res (List D)} {f : List D → List Sl → List Sl → Res (List D)} {Q Q1 : List V → Hp → Prop} (h : CKl Γ W w σ Q (r.bind f))
    (k : ∀ a ρ S w' v, Ext w w' → Rel Γ w' ρ S σ → RepL Γ w'.R w'.F a v → CKl Γ W w' σ Q (f a ρ S) → Q1 v w'.H) : CKl Γ W w σ Q1 r := by
  cases r with
  | ok a ρ S t => exact fun w2 v x2 e2 R2 o2 => k a ρ S w2 v x2 R2 o2 (CKl.ext x2 e2 h)
  | ex y ρ S => exact h
  | bad => exact h
theorem CKl.bindV {r : Res (List D)} {f : List D → List Sl → List Sl → Res Rv} {Q1 : List V → Hp → Prop} (h : CK Γ W w σ Q (r.bind f))
    (k : ∀ a ρ S w' v, Ext w w' → Rel Γ w' ρ S σ → RepL Γ w'.R w'.F a v → CK Γ W w' σ Q (f a ρ S) → Q1 v w'.H) : CKl Γ W w σ Q1 r := by
  cases r with
  | ok a ρ S t => exact fun w2 v x2 e2 R2 o2 => k a ρ S w2 v x2 R2 o2 (CK.ext x2 e2 h)
  | ex y ρ S => exact h
  | bad => exact h
theorem CKr.bindV {r : Res (List Rv)} {f : List Rv → List Sl → List Sl → Res Rv} {Q1 : List V → Hp → Prop} (h : CK Γ W w σ Q (r.bind f))
    (k : ∀ a ρ S w' v, Ext w w' → Rel Γ w' ρ S σ → RvL Γ w w' σ a v → CK Γ W w' σ Q (f a ρ S) → Q1 v w'.H) : CKr Γ W w σ Q1 r := by
  cases r with
  | ok a ρ S t => exact fun w2 v x2 e2 R2 o2 => k a ρ S w2 v x2 R2 o2 (CK.ext x2 e2 h)
  | ex y ρ S => exact h
  | bad => exact h
theorem CKr.bind {r : Res (List Rv)} {f : List Rv → List Sl → List Sl → Res (List Rv)} {Q Q1 : List V → Hp → Prop} (h : CKr Γ W w σ Q (r.bind f))
    (k : ∀ a ρ S w' v, Ext w w' → Rel Γ w' ρ S σ → RvL Γ w w' σ a v → CKr Γ W w' σ Q (f a ρ S) → Q1 v w'.H) : CKr Γ W w σ Q1 r := by
  cases r with
  | ok a ρ S t => exact fun w2 v x2 e2 R2 o2 => k a ρ S w2 v x2 R2 o2 (CKr.ext x2 e2 h)
  | ex y ρ S => exact h
  | bad => exact h
end
section
variable {X : Cx} {Γ : Gm} {W : WX} {e a b : Expr} {es : List Expr} {c ca cb : M Rv} {cs : M (List D)} {cr : M (List Rv)} {pos : Pos}
theorem pma_nil : PA X [] (tMl Γ W cNilD) := pa_nil.imp fun σ H Q ⟨F, E, C, R, ρ, S, rel, ck⟩ => ck ⟨F, E, C, R, H⟩ [] (.refl _) (fun _ => rfl) rel (by rw [RepL])
theorem pma_cons (ha : PE X e (tM Γ W c)) (hr : PA X es (tMl Γ W cs)) (hs : starEach (e :: es) X.env = (false, eval e X.env) :: starEach es X.env) : PA X (e :: es) (tMl Γ W (cConsD c cs)) :=
  (pa_cons ha hr hs).imp fun σ H Q ⟨F, E, C, R, ρ, S, rel, ck⟩ => ⟨F, E, C, R, ρ, S, rel, CKl.datum ck fun d ρ1 S1 w1 v1 x1 rel1 o1 ck1 =>
    ⟨w1.F, w1.E, w1.C, w1.R, ρ1, S1, rel1, CKl.bind ck1 fun ds ρ2 S2 w2 vs x2 rel2 o2 ck2 => ck2 w2 _ (.refl _) (fun _ => rfl) rel2 (by rw [RepL]; exact ⟨v1, vs, rfl, Rep.up x2.gr _ _ o1, o2⟩)⟩⟩
theorem pmr_nil : PA X [] (tMr Γ W cNilR) := pa_nil.imp fun σ H Q ⟨F, E, C, R, ρ, S, rel, ck⟩ => ck ⟨F, E, C, R, H⟩ [] (.refl _) (fun _ => rfl) rel rfl
theorem CK.bindR {r : Res Rv} {f : Rv → List Sl → List Sl → Res (List Rv)} {w : Wd} {σ : L2.St} {Q : List V → Hp → Prop} {Q1 : VK} (h : CKr Γ W w σ Q (r.bind f))
    (k : ∀ a ρ S t w' v, Ext w w' → (t = false → w'.E = w.E) → Rel Γ w' ρ S σ → RvOk Γ w w' σ a v → CKr Γ W w σ Q ((f a ρ S).addt t) → Q1 v w'.H) : CK Γ W w σ Q1 r := by
  cases r with
  | ok a ρ S t => exact fun w2 v x2 e2 R2 o2 => k a ρ S t w2 v x2 e2 R2 o2 h
  | ex y ρ S => exact h
  | bad => exact h
theorem pmr_cons (ha : PE X e (tM Γ W c)) (hr : PA X es (tMr Γ W cr)) (hs : starEach (e :: es) X.env = (false, eval e X.env) :: starEach es X.env) : PA X (e :: es) (tMr Γ W (cConsR c cr)) :=
  (pa_cons ha hr hs).imp fun σ H Q ⟨F, E, C, R, ρ, S, rel, ck⟩ => ⟨F, E, C, R, ρ, S, rel, CK.bindR ck fun d ρ1 S1 t w1 v1 x1 e1 rel1 o1 ck1 =>
    ⟨w1.F, w1.E, w1.C, w1.R, ρ1, S1, rel1, by
      cases q : cr ρ1 S1 with
      | ok ds ρ2 S2 t2 =>
        rw [q] at ck1
        intro w2 vs x2 e2 rel2 o2
        refine ck1 w2 (v1 :: vs) (x1.trans x2) (fun z => ?_) rel2 ⟨v1, vs, rfl, o1.up x2, o2.base x1⟩
        simp only [Bool.or_false, Bool.or_eq_false_iff] at z
        rw [e2 z.2, e1 z.1]
      | ex y ρ2 S2 =>
        rw [q] at ck1
        exact fun w2 cls d x2 rel2 o2 => ck1 w2 cls d (x1.trans x2) rel2 o2
      | bad => rw [q] at ck1; exact ck1⟩⟩

/-! ### displays -/
def cTup (cs : M (List D)) : M Rv := fun ρ S => (cs ρ S).bind fun ds ρ S => if ds.length ≤ sizeLine then .ok (.d (.tup ds)) ρ S false else .bad
def cLst (cs : M (List D)) : M Rv := fun ρ S => (cs ρ S).bind fun ds ρ S => if ds.length ≤ sizeLine then .ok (.fr (.lst ds)) ρ S false else .bad
theorem pm_tup {k : Nat} (h : PA X es (tMl Γ W cs)) : PE X (.Tuple es k pos) (tM Γ W (cTup cs)) :=
  (pe_tup h).imp fun σ H Q ⟨F, E, C, R, ρ, S, rel, ck⟩ => ⟨F, E, C, R, ρ, S, rel, CKl.bindV ck fun ds ρ1 S1 w1 vs x1 rel1 o1 ck1 => by
    by_cases hl : ds.length ≤ sizeLine
    · rw [if_pos hl] at ck1
      refine ⟨by rw [← o1.length]; exact hl, fun p hp => ?_⟩
      have ck2 : CK Γ W w1 σ Q (lift (some (.d (.tup ds))) ρ1 S1) := ck1
      exact (ck2.prim rel1).new rel1.good hp (by
        rw [Rep]
        exact ⟨p, vs, rfl, upd_same, o1.up ⟨⟨[], by simp⟩, updF_up (rel1.good.none_of hp).1⟩⟩)
    · rw [if_neg hl] at ck1
      exact ck1.elim⟩
theorem pm_lst (h : PA X es (tMl Γ W cs)) : PE X (.List es pos) (tM Γ W (cLst cs)) :=
  (pe_lst h).imp fun σ H Q ⟨F, E, C, R, ρ, S, rel, ck⟩ => ⟨F, E, C, R, ρ, S, rel, CKl.bindV ck fun ds ρ1 S1 w1 vs x1 rel1 o1 ck1 => by
    by_cases hl : ds.length ≤ sizeLine
    · rw [if_pos hl] at ck1
      refine ⟨by rw [← o1.length]; exact hl, fun p hp => ?_⟩
      have ck2 : CK Γ W w1 σ Q (lift (some (.fr (.lst ds))) ρ1 S1) := ck1
      exact (ck2.prim rel1).fr rel1.good hp (fun ps z => nomatch z) (by
        rw [Own]
        exact ⟨p, vs, rfl, o1, rfl⟩)
    · rw [if_neg hl] at ck1
      exact ck1.elim⟩

/-! ### calls of built-ins -/
def TopL (Γ : Gm) (w : Wd) : List D → List V → Prop
  | [], vs => vs = []
  | d :: ds, vs => ∃ v vs', vs = v :: vs' ∧ Top Γ w d v ∧ TopL Γ w ds vs'
def conts (ρ S : List Sl) : List Rv → Option (List D)
  | [] => some []
  | r :: rs => match cont ρ S r, conts ρ S rs with
    | some d, some ds => some (d :: ds)
    | _, _ => none
theorem Rel.tops {w w0 : Wd} {σ : L2.St} {ρ S : List Sl} (h : Rel Γ w ρ S σ) : ∀ {rs : List Rv} {vs : List V} {ds : List D}, RvL Γ w0 w σ rs vs → conts ρ S rs = some ds → TopL Γ w ds vs
  | [], vs, ds, l, e => by
    rw [conts] at e
    cases e
    exact l
  | r :: rs, vs, ds, ⟨v, vs', e1, o, l⟩, e => by
    rw [conts] at e
    split at e
    · rename_i d ds' e2 e3
      cases e
      exact ⟨v, vs', e1, h.top o e2, h.tops l e3⟩
    · cases e
def CallOk (Γ : Gm) (g : List D → Option Rv) (r : List V → Hp → VK → Prop) : Prop :=
  ∀ (w : Wd) (vs : List V) (ds : List D) (Q : VK), Good w → TopL Γ w ds vs → PQ Γ w Q (g ds) → r vs w.H Q
theorem CallOk.or {g g' : List D → Option Rv} {r r' : List V → Hp → VK → Prop} (h : CallOk Γ g r) (h' : CallOk Γ g' r') : CallOk Γ (fun ds => (g ds).or (g' ds)) (fun vs H Q => r vs H Q ∨ r' vs H Q) := by
  intro w vs ds Q gd t q
  have q : PQ Γ w Q ((g ds).or (g' ds)) := q
  cases e : g ds with
  | none =>
    rw [e] at q
    exact .inr (h' w vs ds Q gd t q)
  | some z =>
    rw [e] at q
    exact .inl (h w vs ds Q gd t (by rw [e]; exact q))
def cBlt (g : List D → Option Rv) (cs : M (List Rv)) : M Rv := fun ρ S => (cs ρ S).bind fun rs ρ S => match conts ρ S rs with
  | some ds => lift (g ds) ρ S
  | none => .bad
theorem blt_core {g : List D → Option Rv} {r : List V → Hp → VK → Prop} (hg : CallOk Γ g r) {σ : L2.St} {H : Hp} {Q : VK} (h : tM Γ W (cBlt g cr) σ H Q) : tCB r (tMr Γ W cr) σ H Q := by
  obtain ⟨F, E, C, R, ρ, S, rel, ck⟩ := h
  refine ⟨F, E, C, R, ρ, S, rel, CKr.bindV ck fun rs ρ1 S1 w1 vs x1 rel1 o1 ck1 => ?_⟩
  cases e : conts ρ1 S1 rs with
  | none => simp only [e] at ck1; exact ck1.elim
  | some ds =>
    simp only [e] at ck1
    exact hg w1 vs ds Q rel1.good (rel1.tops o1 e) (ck1.prim rel1)
theorem pm_blt {x : Str} {id : String} {g : List D → Option Rv} {r : List V → Hp → VK → Prop} {p : Pos} (hc : CallR X (.builtin id) r) (ok : CallOk Γ g r) (hg : Gl X x) (hm : X.mg x = none) (hv : bootBuiltins x = some (.builtin id)) (ha : PA X (e :: es) (tMr Γ W cr))
    (he : starEach (e :: es) X.env = (false, eval e X.env) :: starEach es X.env) (hpl : (backTo pos (starEach es X.env)).any (·.1) = false) (hn : x ≠ "__name__") (hdb : (x == ("__debug__" : Str)) = false) : PE X (.Call (.Name x p) (e :: es) [] pos) (tM Γ W (cBlt g cr)) :=
  (pe_callB hc hg hm hv ha hn hdb he hpl).imp fun _ _ _ h => blt_core ok h
theorem pm_ty {x : Str} {T : String} {g : List D → Option Rv} {r : List V → Hp → VK → Prop} {p : Pos} (hc : CallR X (.type T) r) (ok : CallOk Γ g r) (hg : Gl X x) (hm : X.mg x = none) (hv : bootBuiltins x = some (.type T)) (ha : PA X (e :: es) (tMr Γ W cr))
    (he : starEach (e :: es) X.env = (false, eval e X.env) :: starEach es X.env) (hpl : (backTo pos (starEach es X.env)).any (·.1) = false) (hn : x ≠ "__name__") (hdb : (x == ("__debug__" : Str)) = false) : PE X (.Call (.Name x p) (e :: es) [] pos) (tM Γ W (cBlt g cr)) :=
  (pe_callTy hc hg hm hv ha hn hdb he hpl).imp fun _ _ _ h => blt_core ok h
end

/-! ### subscripts -/
def oIx : D → D → Option Rv
  | .str z, .int i => if z.length ≤ sizeLine then (atI z.cps.toList i).map fun c => .d (.str ⟨#[c]⟩) else none
  | y, .int i => y.items.bind fun xs => (atI xs i).map .d
  | _, _ => none
def oIxD (y x : D) : Option Rv := (dGet y x).bind fun o => o.map .d
section
variable {Γ : Gm} {X : Cx}
theorem RepL.get {R : List Addr} {F : Hp} : ∀ {xs : List D} {ys : List V} {i : Nat} {d : D}, RepL Γ R F xs ys → xs[i]? = some d → ∃ v, ys[i]? = some v ∧ Rep Γ R F d v
  | [], _, _, _, _, e => by simp at e
  | x :: xs, ys, 0, d, h, e => by
    rw [RepL] at h
    obtain ⟨y, r, e1, q, l⟩ := h
    simp at e
    subst e e1
    exact ⟨y, rfl, q⟩
  | x :: xs, ys, i + 1, d, h, e => by
    rw [RepL] at h
    obtain ⟨y, r, e1, q, l⟩ := h
    subst e1
    obtain ⟨v, h1, h2⟩ := RepL.get (i := i) l (by simpa using e)
    exact ⟨v, by simpa using h1, h2⟩
theorem RepL.atI {R : List Addr} {F : Hp} {xs : List D} {ys : List V} {i : Int} {d : D} (h : RepL Γ R F xs ys) (e : L2.atI xs i = some d) : ∃ v, L2.atI ys i = some v ∧ Rep Γ R F d v := by
  unfold L2.atI at e ⊢
  obtain ⟨j, e1, e2⟩ := Option.bind_eq_some_iff.mp e
  obtain ⟨v, h1, h2⟩ := h.get e2
  exact ⟨v, by rw [← h.length, e1]; exact h1, h2⟩
theorem bIx : BinOk Γ oIx (rIx Γ.K) := by
  intro w v1 v2 d1 d2 Q gd t1 t2 q
  have seq : ∀ i xs, d2 = .int i → d1.items = some xs → PQ Γ w Q ((L2.atI xs i).map .d) → rIx Γ.K v1 v2 w.H Q := fun i xs e2 e1 qq => by
    subst e2
    cases ea : L2.atI xs i with
    | none => rw [ea] at qq; exact qq.elim
    | some d =>
      rw [ea] at qq
      obtain ⟨a, ys, ev, hs, l⟩ := top_seq gd e1 t1
      obtain ⟨v, h1, h2⟩ := l.atI ea
      rcases hs with hs | hs
      · exact .inl ⟨a, ys, i, v, ev, top_int t2, hs, h1, qq.d gd h2⟩
      · exact .inr (.inl ⟨a, ys, i, v, ev, top_int t2, hs, h1, qq.d gd h2⟩)
  cases d2 with
  | int i =>
    cases d1 with
    | str z =>
      simp only [oIx] at q
      split at q
      · rename_i hz
        cases ea : L2.atI z.cps.toList i with
        | none => rw [ea] at q; exact q.elim
        | some c =>
          rw [ea] at q
          exact .inr (.inr ⟨z, i, c, top_str t1, top_int t2, hz, ea, q.d gd rep_str⟩)
      · exact q.elim
    | lst xs => exact seq i xs rfl rfl q
    | tup xs => exact seq i xs rfl rfl q
    | kl xs => exact seq i xs rfl rfl q
    | kt xs => exact seq i xs rfl rfl q
    | _ => exact q.elim
  | _ => cases d1 <;> exact q.elim
def rIxD : R2 := fun x y H Q => ∃ a v, x = .ref a ∧ DGet H a y (some v) ∧ Q v H
theorem ix_dict (hu : X.A.units + 1 < cLine) : IxR X rIxD := by
  intro value slice pins s σ H x y v u Q I rx ry h hs
  obtain ⟨a, z, e, g, q⟩ := h
  subst e
  cases rx
  exact tail_any (dict_typeIs I g) PySem.F.slot_dict_getitem.lookup (d_getItem hu I g ry fun w' s' I' r' => ⟨z, H, I', r', q⟩) hs
theorem bIxD : BinOk Γ oIxD rIxD := by
  intro w v1 v2 d1 d2 Q gd t1 t2 q
  unfold oIxD at q
  cases e : dGet d1 d2 with
  | none => rw [e] at q; exact q.elim
  | some o =>
    rw [e] at q
    obtain ⟨a, o', ev, g, ro⟩ := dGet_ok gd e t1 t2
    cases o with
    | none => exact q.elim
    | some d =>
      cases o' with
      | none => exact ro.elim
      | some v => exact ⟨a, v, ev, g, q.d gd ro⟩
end

/-! ### slices -/
def partD : D → Option (Option Int)
  | .int i => some (some i)
  | _ => none
/-- an optional bound -/
def cNoP : M (Option Int) := fun ρ S => .ok none ρ S false
def cPart (c : M Rv) : M (Option Int) := fun ρ S => (c ρ S).bind fun r ρ S => match (cont ρ S r).bind partD with
  | some o => .ok o ρ S false
  | none => .bad
section
variable (Γ : Gm) (W : WX)
def CKo (w : Wd) (σ : L2.St) (Q : Option Int → Hp → Prop) : Res (Option Int) → Prop
  | .ok b ρ' S' t => ∀ w', Ext w w' → (t = false → w'.E = w.E) → Rel Γ w' ρ' S' σ → Q b w'.H
  | .ex x ρ' S' => ∀ w' cls d, Ext w w' → Rel Γ w' ρ' S' σ → XOk Γ w' x cls d → W cls d σ w'.H
  | .bad => False
def tMo (c : M (Option Int)) : TO := fun σ H Q => ∃ F E C R ρ S, Rel Γ ⟨F, E, C, R, H⟩ ρ S σ ∧ CKo Γ W ⟨F, E, C, R, H⟩ σ Q (c ρ S)
end
def cutD (xs : List D) (lo hi : Option Int) : List D := (xs.drop (HT.sIx xs.length 0 lo)).take (HT.sIx xs.length xs.length hi - HT.sIx xs.length 0 lo)
def oSl : D → Option Int → Option Int → Option Rv
  | .lst xs, lo, hi => some (.fr (.lst (cutD xs lo hi)))
  | .kl xs, lo, hi => some (.fr (.lst (cutD xs lo hi)))
  | _, _, _ => none
def cSl (g : D → Option Int → Option Int → Option Rv) (ce : M Rv) (cl ch : M (Option Int)) : M Rv := fun ρ S => (ce ρ S).bind fun re ρ S => (cl ρ S).bind fun lo ρ S => (ch ρ S).bind fun hi ρ S =>
  match cont ρ S re with
  | some d => lift (g d lo hi) ρ S
  | none => .bad
section
variable {X : Cx} {Γ : Gm} {W : WX} {e a b : Expr} {c ca : M Rv} {pos p2 : Pos} {w w1 : Wd} {σ : L2.St}
theorem CKo.ext {t : Bool} {Q : Option Int → Hp → Prop} {r : Res (Option Int)} (x : Ext w w1) (e : t = false → w1.E = w.E) (h : CKo Γ W w σ Q (r.addt t)) : CKo Γ W w1 σ Q r := by
  cases r with
  | ok a ρ S t' =>
    refine fun w2 x2 e2 R2 => h w2 (x.trans x2) (fun z => ?_) R2
    obtain ⟨z1, z2⟩ := Bool.or_eq_false_iff.mp z
    rw [e2 z2, e z1]
  | ex y ρ S => exact fun w2 cls d x2 R2 o2 => h w2 cls d (x.trans x2) R2 o2
  | bad => exact h
theorem CKo.bindV {r : Res (Option Int)} {f : Option Int → List Sl → List Sl → Res Rv} {Q : VK} {Q1 : Option Int → Hp → Prop} (h : CK Γ W w σ Q (r.bind f))
    (k : ∀ a ρ S w', Ext w w' → Rel Γ w' ρ S σ → CK Γ W w' σ Q (f a ρ S) → Q1 a w'.H) : CKo Γ W w σ Q1 r := by
  cases r with
  | ok a ρ S t => exact fun w2 x2 e2 R2 => k a ρ S w2 x2 R2 (CK.ext x2 e2 h)
  | ex y ρ S => exact h
  | bad => exact h
theorem CK.bindO {r : Res Rv} {f : Rv → List Sl → List Sl → Res (Option Int)} {Q : Option Int → Hp → Prop} {Q1 : VK} (h : CKo Γ W w σ Q (r.bind f))
    (k : ∀ a ρ S w' v, Ext w w' → Rel Γ w' ρ S σ → RvOk Γ w w' σ a v → CKo Γ W w' σ Q (f a ρ S) → Q1 v w'.H) : CK Γ W w σ Q1 r := by
  cases r with
  | ok a ρ S t => exact fun w2 v x2 e2 R2 o2 => k a ρ S w2 v x2 R2 o2 (CKo.ext x2 e2 h)
  | ex y ρ S => exact h
  | bad => exact h
theorem _root_.L2.PO.imp {X : Cx} {e : Option Expr} {t t' : TO} (h : PO X e t) (k : ∀ σ H Q, t' σ H Q → t σ H Q) : PO X e t' := ⟨fun pins s σ H Q I hw => h.run pins s σ H Q I (k σ H Q hw)⟩
theorem pmo_none : PO X none (tMo Γ W cNoP) := po_none.imp fun σ H Q ⟨F, E, C, R, ρ, S, rel, ck⟩ => ck ⟨F, E, C, R, H⟩ (.refl _) (fun _ => rfl) rel
theorem pmo_some (h : PE X e (tM Γ W c)) : PO X (some e) (tMo Γ W (cPart c)) :=
  (po_some h).imp fun σ H Q ⟨F, E, C, R, ρ, S, rel, ck⟩ => ⟨F, E, C, R, ρ, S, rel, CK.bindO ck fun ra ρ1 S1 w1 v1 x1 rel1 o1 ck1 => by
    cases e2 : (cont ρ1 S1 ra).bind partD with
    | none => simp only [e2] at ck1; exact ck1.elim
    | some k =>
      obtain ⟨d, e3, e4⟩ := Option.bind_eq_some_iff.mp e2
      simp only [e2] at ck1
      cases d with
      | int i =>
        cases e4
        exact ⟨i, top_int (rel1.top o1 e3), ck1 w1 (.refl _) (fun _ => rfl) rel1⟩
      | _ => cases e4⟩
def SlOk (Γ : Gm) (g : D → Option Int → Option Int → Option Rv) (r : V → Option Int → Option Int → Hp → VK → Prop) : Prop :=
  ∀ (w : Wd) (v : V) (d : D) (lo hi : Option Int) (Q : VK), Good w → Top Γ w d v → PQ Γ w Q (g d lo hi) → r v lo hi w.H Q
theorem SlOk.or {g g' : D → Option Int → Option Int → Option Rv} {r r' : V → Option Int → Option Int → Hp → VK → Prop} (h : SlOk Γ g r) (h' : SlOk Γ g' r') : SlOk Γ (fun d l u => (g d l u).or (g' d l u)) (fun v l u H Q => r v l u H Q ∨ r' v l u H Q) := by
  intro w v d lo hi Q gd t q
  have q : PQ Γ w Q ((g d lo hi).or (g' d lo hi)) := q
  cases e : g d lo hi with
  | none =>
    rw [e] at q
    exact .inr (h' w v d lo hi Q gd t q)
  | some z =>
    rw [e] at q
    exact .inl (h w v d lo hi Q gd t (by rw [e]; exact q))
theorem pm_slice {lo hi : Option Expr} {cl ch : M (Option Int)} {g : D → Option Int → Option Int → Option Rv} {r : V → Option Int → Option Int → Hp → VK → Prop} (hr : SlR X r) (hg : SlOk Γ g r) (he : PE X e (tM Γ W c)) (hl : PO X lo (tMo Γ W cl)) (hh : PO X hi (tMo Γ W ch)) :
    PE X (.Subscript e (.Slice lo hi none p2) pos) (tM Γ W (cSl g c cl ch)) :=
  (pe_slice hr he hl hh).imp fun σ H Q ⟨F, E, C, R, ρ, S, rel, ck⟩ => ⟨F, E, C, R, ρ, S, rel, CK.bind ck fun re ρ1 S1 w1 v1 x1 rel1 o1 ck1 =>
    ⟨w1.F, w1.E, w1.C, w1.R, ρ1, S1, rel1, CKo.bindV ck1 fun l ρ2 S2 w2 x2 rel2 ck2 => ⟨w2.F, w2.E, w2.C, w2.R, ρ2, S2, rel2, CKo.bindV ck2 fun u ρ3 S3 w3 x3 rel3 ck3 => by
      cases e2 : cont ρ3 S3 re with
      | none => simp only [e2] at ck3; exact ck3.elim
      | some d =>
        simp only [e2] at ck3
        exact hg w3 v1 d l u Q rel3.good (rel3.top ((o1.up x2).up x3) e2) (ck3.prim rel3)⟩⟩⟩
theorem RepL.drop {R : List Addr} {F : Hp} : ∀ {xs : List D} {ys : List V} (n : Nat), RepL Γ R F xs ys → RepL Γ R F (xs.drop n) (ys.drop n)
  | _, _, 0, h => h
  | [], ys, n + 1, h => by rw [RepL] at h; subst h; simp [RepL]
  | x :: xs, ys, n + 1, h => by
    rw [RepL] at h
    obtain ⟨y, r, e1, q, l⟩ := h
    subst e1
    exact RepL.drop n l
theorem RepL.take {R : List Addr} {F : Hp} : ∀ {xs : List D} {ys : List V} (n : Nat), RepL Γ R F xs ys → RepL Γ R F (xs.take n) (ys.take n)
  | xs, ys, 0, h => by rw [List.take_zero, List.take_zero, RepL]
  | [], ys, n + 1, h => by rw [RepL] at h; subst h; simp [RepL]
  | x :: xs, ys, n + 1, h => by
    rw [RepL] at h
    obtain ⟨y, r, e1, q, l⟩ := h
    subst e1
    rw [List.take_succ_cons, List.take_succ_cons, RepL]
    exact ⟨y, _, rfl, q, RepL.take n l⟩
theorem RepL.cut {R : List Addr} {F : Hp} {xs : List D} {ys : List V} (lo hi : Option Int) (h : RepL Γ R F xs ys) : RepL Γ R F (cutD xs lo hi) (cutV ys lo hi) := by
  unfold cutD cutV
  rw [h.length]
  exact (h.drop _).take _
theorem bSlL : SlOk Γ oSl (rSlL Γ.K) := by
  intro w v d lo hi Q gd t q
  have fin : ∀ a xs ys, v = .ref a → SqL Γ.K w.H a ys → RepL Γ w.R w.F xs ys → PQ Γ w Q (some (.fr (.lst (cutD xs lo hi)))) → rSlL Γ.K v lo hi w.H Q := fun a xs ys ev h l q =>
    ⟨a, ys, ev, h, fun p hp => q.fr gd hp (fun ps z => nomatch z) (by rw [Own]; exact ⟨p, _, rfl, l.cut lo hi, rfl⟩)⟩
  cases d with
  | lst xs => obtain ⟨a, ys, e, h, l⟩ := t; exact fin a xs ys e (SqL.of h) l q
  | kl xs => obtain ⟨a, ys, e, h, l⟩ := top_kl t; exact fin a xs ys e (SqL.up gd.sub h) l q
  | _ => exact q.elim
end

/-! ### methods of built-in types that change nothing -/
def tyD (T : String) : D → Bool
  | .str _ => T == "str"
  | .lst _ => T == "list"
  | .kl _ => T == "list"
  | .dK _ => T == "dict"
  | .dT _ => T == "dict"
  | _ => false
def cMt (T : String) (g : D → List D → Option Rv) (co : M Rv) (cs : M (List Rv)) : M Rv := fun ρ S => (co ρ S).bind fun ro ρ S => match cont ρ S ro with
  | some d0 => if tyD T d0 = true then (cs ρ S).bind fun rs ρ S => (match cont ρ S ro, conts ρ S rs with
    | some d, some ds => lift (g d ds) ρ S
    | _, _ => .bad) else .bad
  | none => .bad
def MtOk (Γ : Gm) (g : D → List D → Option Rv) (r : V → List V → Hp → VK → Prop) : Prop :=
  ∀ (w : Wd) (v : V) (d : D) (vs : List V) (ds : List D) (Q : VK), Good w → Top Γ w d v → TopL Γ w ds vs → PQ Γ w Q (g d ds) → r v vs w.H Q
section
variable {X : Cx} {Γ : Gm} {W : WX} {o e : Expr} {es : List Expr} {co : M Rv} {cr : M (List Rv)} {w w1 : Wd} {σ : L2.St} {name : Str} {apos cpos : Pos} {T id : String} {g : D → List D → Option Rv} {r : V → List V → Hp → VK → Prop}
theorem tyD_of {K : PySem.W.Frag} (hK : Γ.K = K) (gd : Good w) {d : D} {v : V} (e : tyD T d = true) (h : Top Γ w d v) : tyV K T v w.H := by
  subst hK
  cases d with
  | str x => rw [top_str h]; exact beq_iff_eq.mp e
  | lst xs => obtain ⟨a, ys, ev, q, l⟩ := h; subst ev; exact .inl ⟨beq_iff_eq.mp e, ys, SqL.of q⟩
  | kl xs => obtain ⟨a, ys, ev, q, l⟩ := top_kl h; subst ev; exact .inl ⟨beq_iff_eq.mp e, ys, SqL.up gd.sub q⟩
  | dK xs => obtain ⟨a, ys, ev, q, l⟩ := h; subst ev; exact .inr (.inr (.inl ⟨beq_iff_eq.mp e, .inl ⟨ys, q⟩⟩))
  | dT xs => obtain ⟨a, ys, ev, q, l⟩ := h; subst ev; exact .inr (.inr (.inl ⟨beq_iff_eq.mp e, .inr ⟨ys, q⟩⟩))
  | _ => cases e
theorem pm_mt (hK : Γ.K = X.K) (pa : PlainAttrs T) (slot : Slot T name id) (hty : typeOf (.builtin id) = pure (.type "method_descriptor")) (hm : MtR X id r) (hg : MtOk Γ g r) (ho : PE X o (tM Γ W co)) (ha : PA X (e :: es) (tMr Γ W cr))
    (hbase : attributeBase o name X.env (eval o X.env) = eval o X.env)
    (hfew : ((backTo cpos (starEach (e :: es) X.env)).all (fun x => !x.1) && (backToKw cpos (keywordEach [] X.env)).all (fun x => x.1.isSome)
      && decide ((e :: es).length + ([] : List Keyword).length + (if ([] : List Keyword).isEmpty then 0 else 1) < 30)) = true)
    (hline : (apos.endLine == cpos.line) = true) (hs : starEach (e :: es) X.env = (false, eval e X.env) :: starEach es X.env) (hplain : (backTo cpos (starEach es X.env)).any (·.1) = false) :
    PE X (.Call (.Attribute o name apos) (e :: es) [] cpos) (tM Γ W (cMt T g co cr)) :=
  (pe_bm pa slot hty hm ho ha hbase hfew hline hs hplain).imp fun σ H Q ⟨F, E, C, R, ρ, S, rel, ck⟩ => ⟨F, E, C, R, ρ, S, rel, CK.bind ck fun ro ρ1 S1 w1 v1 x1 rel1 o1 ck1 => by
    cases e1 : cont ρ1 S1 ro with
    | none => simp only [e1] at ck1; exact ck1.elim
    | some d0 =>
      simp only [e1] at ck1
      split at ck1
      · rename_i ht
        refine ⟨tyD_of hK rel1.good ht (rel1.top o1 e1), w1.F, w1.E, w1.C, w1.R, ρ1, S1, rel1, CKr.bindV ck1 fun rs ρ2 S2 w2 vs x2 rel2 o2 ck2 => ?_⟩
        cases e2 : cont ρ2 S2 ro with
        | none => simp only [e2] at ck2; exact ck2.elim
        | some d =>
          cases e3 : conts ρ2 S2 rs with
          | none => simp only [e2, e3] at ck2; exact ck2.elim
          | some ds =>
            simp only [e2, e3] at ck2
            exact hg w2 v1 d vs ds Q rel2.good (rel2.top (o1.up x2) e2) (rel2.tops o2 e3) (ck2.prim rel2)
      · exact ck1.elim⟩
end
end DV

/-! DVg: what a def promises by data; calls of defs. -/
namespace DV
open PySem PySem.Spec PyProof.Rows L2

section
variable (Γ : Gm)
/-- what a def's outcome owes -/
def FK (w : Wd) (Q : VK) (E : XK) : Res Rv → Prop
  | .ok r _ S' _ => ∀ w' v, Ext w w' → RelS Γ w' S' → RvOk Γ w w' [] r v → Q v w'.H
  | .ex x _ S' => ∀ w' cls d, Ext w w' → RelS Γ w' S' → XOk Γ w' x cls d → E cls d w'.H
  | .bad => False
/-- the promise of a def of n parameters whose mirror is m -/
def spM (n : Nat) (m : List D → List Sl → Res Rv) : Sp := fun vs H Q E => vs.length = n ∧ ∃ F C R S ds, RelS Γ ⟨F, [], C, R, H⟩ S ∧ RepL Γ R F ds vs ∧ FK Γ ⟨F, [], C, R, H⟩ Q E (m ds S)
end
/-- a call's outcome, in the caller's frame -/
def Res.at {α : Type} (ρ : List Sl) : Res α → Res α
  | .ok r _ S _ => .ok r ρ S false
  | .ex x _ S => .ex x ρ S
  | .bad => .bad
section
variable {Γ : Gm} {W : WX} {w : Wd} {σ : L2.St} {ρ S : List Sl} {Q : VK}
theorem Rel.callee (h : Rel Γ w ρ S σ) : RelS Γ ⟨w.F, [], w.C, w.R, w.H⟩ S := by
  have nd := h.good.nd
  have : w.ad = w.E.map (·.1) ++ w.C.map (·.1) := by show (w.E ++ w.C).map _ = _; simp
  rw [this] at nd
  exact ⟨⟨h.good.sub, fun p hp => h.good.cell p (List.mem_append_right _ (by simpa using hp)), by simpa using (List.nodup_append.mp nd).2.1⟩, rfl, h.own.2⟩
/-- behind a call: the caller's own cells stand as they stood -/
theorem call_frame (h : Rel Γ w ρ S σ) {w' : Wd} {S' : List Sl} (x : Ext ⟨w.F, [], w.C, w.R, w.H⟩ w') (h' : RelS Γ w' S') :
    Ext w ⟨w'.F, w.E, w'.C, w'.R, w'.H⟩ ∧ Rel Γ ⟨w'.F, w.E, w'.C, w'.R, w'.H⟩ ρ S' σ ∧ ∀ r v, RvOk Γ ⟨w.F, [], w.C, w.R, w.H⟩ w' [] r v → RvOk Γ w ⟨w'.F, w.E, w'.C, w'.R, w'.H⟩ σ r v := by
  have g := h.good
  have nd := g.nd
  have ead : w.ad = w.E.map (·.1) ++ w.C.map (·.1) := by show (w.E ++ w.C).map _ = _; simp
  have ead' : w'.ad = w'.C.map (·.1) := by show (w'.E ++ w'.C).map _ = _; rw [h'.noE]; rfl
  rw [ead] at nd
  obtain ⟨n1, n2, n3⟩ := List.nodup_append.mp nd
  have inC : ∀ a, a ∈ Wd.ad ⟨w.F, [], w.C, w.R, w.H⟩ ↔ a ∈ w.C.map (·.1) := fun a => by show a ∈ ([] ++ w.C).map _ ↔ _; simp
  have outE : ∀ p ∈ w.E, p.1 ∉ w.C.map (·.1) := fun p hp z => n3 _ (List.mem_map_of_mem hp) _ z rfl
  have hE : ∀ p ∈ w.E, w.H p.1 = some p.2 ∧ w.F p.1 = none := fun p hp => g.cell p (List.mem_append_left _ hp)
  have kE : ∀ p ∈ w.E, w'.H p.1 = some p.2 := fun p hp => x.keep _ _ (hE p hp).1 (h.own.1.nt p hp) (fun z => outE p hp ((inC _).mp z))
  have fE : ∀ p ∈ w.E, w'.F p.1 = none := fun p hp => by
    cases q : w'.F p.1 with
    | none => rfl
    | some o =>
      rcases x.fnew _ _ q with z | z | z
      · have z : w.F p.1 = some o := z
        rw [(hE p hp).2] at z; cases z
      · have z : w.H p.1 = none := z
        rw [(hE p hp).1] at z; cases z
      · exact absurd ((inC _).mp z) (outE p hp)
  have cE : ∀ p ∈ w.E, p.1 ∉ w'.C.map (·.1) := fun p hp z => by
    rcases x.cnew p.1 (by rw [ead']; exact z) with y | y
    · exact outE p hp ((inC _).mp y)
    · have y : w.H p.1 = none := y
      rw [(hE p hp).1] at y; cases y
  have sub : ∀ a, a ∈ Wd.ad ⟨w.F, [], w.C, w.R, w.H⟩ → a ∈ w.ad := fun a z => by rw [ead]; exact List.mem_append_right _ ((inC a).mp z)
  have ead2 : Wd.ad ⟨w'.F, w.E, w'.C, w'.R, w'.H⟩ = w.E.map (·.1) ++ w'.C.map (·.1) := by show (w.E ++ w'.C).map _ = _; simp
  have g' : Good ⟨w'.F, w.E, w'.C, w'.R, w'.H⟩ := by
    refine ⟨h'.good.sub, fun p hp => ?_, ?_⟩
    · rcases List.mem_append.mp hp with z | z
      · exact ⟨kE p z, fE p z⟩
      · exact h'.good.cell p (List.mem_append_right _ z)
    · rw [ead2]
      have n4 := h'.good.nd
      rw [ead'] at n4
      refine List.nodup_append.mpr ⟨n1, n4, fun a ha b hb e => ?_⟩
      obtain ⟨p, hp, rfl⟩ := List.mem_map.mp ha
      exact cE p hp (e ▸ hb)
  refine ⟨⟨x.gr, fun a o z n hn => x.keep a o z n fun y => hn (sub a y), x.tab, fun a z => ?_, fun a o z => ?_, x.live⟩, ⟨g', h.own.1.up x.gr, h'.own⟩, fun r v ok => ?_⟩
  · rw [ead2] at z
    rcases List.mem_append.mp z with z | z
    · exact .inl (by rw [ead]; exact List.mem_append_left _ z)
    · rcases x.cnew a (by rw [ead']; exact z) with y | y
      · exact .inl (sub a y)
      · exact .inr y
  · rcases x.fnew a o z with y | y | y
    · exact .inl y
    · exact .inr (.inl y)
    · exact .inr (.inr (sub a y))
  · cases r with
    | d _ => exact ok
    | env i => exact absurd (show ([] : L2.St)[i]? = some (some v) from ok) (by simp)
    | fr s =>
      obtain ⟨c, ow, f, b⟩ := ok
      refine ⟨c, ow, ⟨fun p hp => ?_, f.nd⟩, fun p hp => ?_⟩
      · obtain ⟨a1, a2, a3, a4⟩ := f.at_ p hp
        refine ⟨a1, a2, fun z => ?_, a4⟩
        rw [ead2] at z
        rcases List.mem_append.mp z with z | z
        · obtain ⟨q, hq, e⟩ := List.mem_map.mp z
          rcases b p hp with y | y
          · have y : w.H p.1 = none := y
            rw [← e, (hE q hq).1] at y; cases y
          · exact outE q hq (by rw [e]; exact (inC _).mp y)
        · exact a3 (by rw [ead']; exact z)
      · rcases b p hp with y | y
        · exact .inl y
        · exact .inr (sub _ y)
theorem CK.call (h : Rel Γ w ρ S σ) {r : Res Rv} (ck : CK Γ W w σ Q (r.at ρ)) : FK Γ ⟨w.F, [], w.C, w.R, w.H⟩ Q (WE W σ) r := by
  cases r with
  | ok r _ S' _ =>
    intro w' v x h' ok
    obtain ⟨x2, r2, k2⟩ := call_frame h x h'
    exact ck ⟨w'.F, w.E, w'.C, w'.R, w'.H⟩ v x2 (fun _ => rfl) r2 (k2 _ _ ok)
  | ex y _ S' =>
    intro w' cls d x h' ok
    obtain ⟨x2, r2, _⟩ := call_frame h x h'
    exact ck ⟨w'.F, w.E, w'.C, w'.R, w'.H⟩ cls d x2 r2 (by cases y <;> exact ok)
  | bad => exact ck
theorem Rel.spM (h : Rel Γ w ρ S σ) {n : Nat} {m : List D → List Sl → Res Rv} {ds : List D} {vs : List V} (l : RepL Γ w.R w.F ds vs) (hn : ds.length = n) (ck : CK Γ W w σ Q ((m ds S).at ρ)) : DV.spM Γ n m vs w.H Q (WE W σ) :=
  ⟨by rw [← l.length]; exact hn, w.F, w.C, w.R, S, ds, h.callee, l, ck.call h⟩
end

/-! ### how arguments come to parameters -/
/-- n values are written and the keywords ks: gD puts the data in the parameters' order, defaults among them -/
def CallB (Γ : Gm) (K : PySem.W.Frag) (fd : FuncData) (ps : List Str) (n : Nat) (ks : List Str) (gD : List D → List D → List D) : Prop :=
  ∃ g gV, KBn K fd ps n ks g gV ∧ ∀ R F ds vs es zs, RepL Γ R F ds vs → RepL Γ R F es zs → vs.length = n → zs.length = ks.length → RepL Γ R F (gD ds es) (gV vs zs) ∧ (gD ds es).length = ps.length
section
variable {X : Cx} {k n : Nat} {f : Addr} {fd : FuncData} {ps ks : List Str} {sp : Sp} {E : L2.St → XK} {x : Str} {p pos : Pos} {e : Expr} {es : List Expr} {kws : List Keyword} {t tk : TA} {g : List Value → List Value → List Value} {gV : List V → List V → List V} {CX : CXT}
def tCallNS (n m : Nat) (sp : Sp) (gV : List V → List V → List V) (E : L2.St → XK) (t tk : TA) : TE := fun σ H Q => t σ H fun vs H1 => tk σ H1 fun zs H2 => vs.length = n ∧ zs.length = m ∧ sp (gV vs zs) H2 Q (E σ)
theorem run_fnNS {pins : List (Addr × Obj)} {σ : L2.St} {H : Hp} {s : Shared} {Q : VK} {us ws : List Value} {vs zs : List V} (F : FnOk X.prog X.w X.K X.mg X.base CX k f fd ps sp) (hr : Room k X.A) (hb : KBn X.K fd ps n ks g gV) (hx : PassesAt CX X σ (E σ))
    (I : Inv X pins σ H s) (r : Vals vs us) (rz : Vals zs ws) (l1 : vs.length = n) (l2 : zs.length = ks.length) (h : sp (gV vs zs) H Q (E σ)) : wpAny (model X.prog X.w) X.A (call (.ref f) us (ks.zip ws)) (EP X pins σ Q) X.xe s := by
  have r2 := hb.rel r rz
  refine wpAny_call (codeAny_mono (F.run X.A X.stack s H ⟨us, ks.zip ws⟩ (g us ws) (gV vs zs) Q (E σ) hr I.env0 (hb.to s us ws I.kIn (r.length.symm.trans l1) (rz.length.symm.trans l2)) r2 h) fun r s' hq => ?_)
  cases r with
  | error e => exact hx pins H s e s' I hq
  | ok fl =>
    cases fl with
    | ret u => exact I.after hq
    | next => exact False.elim hq
    | brk => exact False.elim hq
    | cont => exact False.elim hq
theorem pe_callNS (F : FnOk X.prog X.w X.K X.mg X.base CX k f fd ps sp) (hr : Room k X.A) (hg : Gl X x) (hm : X.mg x = some (.ref f)) (hk : PySem.W.keepIn X.K (.ref f) = true) (hb : KBn X.K fd ps n ks g gV) (hx : ∀ σ, PassesAt CX X σ (E σ))
    (ha : PA X (e :: es) t) (hkw : PK X kws tk) (hall : (backToKw pos (keywordEach kws X.env)).all (·.1.isSome) = true) (hks : (backToKw pos (keywordEach kws X.env)).filterMap (·.1) = ks)
    (hdb : (x == ("__debug__" : Str)) = false) (he : starEach (e :: es) X.env = (false, eval e X.env) :: starEach es X.env)
    (hpl : ((backTo pos (starEach (e :: es) X.env)).any (·.1) || (backToKw pos (keywordEach kws X.env)).any (·.1.isNone)) = false) :
    PE X (.Call (.Name x p) (e :: es) kws pos) (tCallNS n ks.length sp gV E t tk) := by
  refine ⟨fun pins s σ H Q I h => ?_⟩
  refine wpAny_Call_Name_kw (ld_glob I hg hm ?_ hdb)
  refine PySem.W.callWith_KW (h₀ := X.base) I.ok.mod.kin hk hall (thn (ha.run pos pins s σ H _ I h) fun us s1 ⟨vs, H1, I1, r, q⟩ => ?_) hpl he
  refine thn (hkw.run pos pins s1 σ H1 _ I1 q) fun ws s2 ⟨zs, H2, I2, rz, l1, l2, q2⟩ => ⟨I2.kIn, ?_⟩
  rw [hks]
  exact run_fnNS F hr hb (hx σ) I2 r rz l1 l2 q2
theorem pe_callNS0 (F : FnOk X.prog X.w X.K X.mg X.base CX k f fd ps sp) (hr : Room k X.A) (hg : Gl X x) (hm : X.mg x = some (.ref f)) (hk : PySem.W.keepIn X.K (.ref f) = true) (hb : KBn X.K fd ps n ks g gV) (hx : ∀ σ, PassesAt CX X σ (E σ))
    (hkw : PK X kws tk) (hall : (backToKw pos (keywordEach kws X.env)).all (·.1.isSome) = true) (hks : (backToKw pos (keywordEach kws X.env)).filterMap (·.1) = ks)
    (hdb : (x == ("__debug__" : Str)) = false) (hpl : ((backTo pos (starEach [] X.env)).any (·.1) || (backToKw pos (keywordEach kws X.env)).any (·.1.isNone)) = false) :
    PE X (.Call (.Name x p) [] kws pos) (tCallNS n ks.length sp gV E tNil tk) := by
  refine ⟨fun pins s σ H Q I h => ?_⟩
  refine wpAny_Call_Name_kw (ld_glob I hg hm ?_ hdb)
  refine PySem.W.callWith_KW0 (h₀ := X.base) I.ok.mod.kin hk hall ?_ hpl
  refine thn (hkw.run pos pins s σ H _ I h) fun ws s2 ⟨zs, H2, I2, rz, l1, l2, q2⟩ => ⟨I2.kIn, ?_⟩
  rw [hks]
  exact run_fnNS (us := []) (vs := []) F hr hb (hx σ) I2 .nil rz l1 l2 q2
end
theorem _root_.L2.PK.imp {X : Cx} {e : List Keyword} {t t' : TA} (h : PK X e t) (k : ∀ σ H Q, t' σ H Q → t σ H Q) : PK X e t' := ⟨fun pos pins s σ H Q I hw => h.run pos pins s σ H Q I (k σ H Q hw)⟩
/-- a call of a def -/
def cCall (m : List D → List Sl → Res Rv) (n j : Nat) (gD : List D → List D → List D) (cs ks : M (List D)) : M Rv := fun ρ S => (cs ρ S).bind fun ds ρ S => (ks ρ S).bind fun es ρ S =>
  if ds.length = n ∧ es.length = j then (m (gD ds es) S).at ρ else .bad
section
variable {X : Cx} {Γ : Gm} {W : WX} {k n np : Nat} {f : Addr} {fd : FuncData} {ps ks : List Str} {x : Str} {p pos kpos : Pos} {e : Expr} {es : List Expr} {kws : List Keyword} {c : M Rv} {cs ck : M (List D)} {m : List D → List Sl → Res Rv} {gD : List D → List D → List D} {nm : Option Str}
theorem pmk_nil : PK X [] (tMl Γ W cNilD) := pk_nil.imp fun σ H Q ⟨F, E, C, R, ρ, S, rel, ck⟩ => ck ⟨F, E, C, R, H⟩ [] (.refl _) (fun _ => rfl) rel (by rw [RepL])
theorem pmk_cons (ha : PE X e (tM Γ W c)) (hr : PK X kws (tMl Γ W cs)) : PK X (⟨nm, e, kpos⟩ :: kws) (tMl Γ W (cConsD c cs)) :=
  (pk_cons ha hr).imp fun σ H Q ⟨F, E, C, R, ρ, S, rel, ck⟩ => ⟨F, E, C, R, ρ, S, rel, CKl.datum ck fun d ρ1 S1 w1 v1 x1 rel1 o1 ck1 =>
    ⟨w1.F, w1.E, w1.C, w1.R, ρ1, S1, rel1, CKl.bind ck1 fun ds ρ2 S2 w2 vs x2 rel2 o2 ck2 => ck2 w2 _ (.refl _) (fun _ => rfl) rel2 (by rw [RepL]; exact ⟨v1, vs, rfl, Rep.up x2.gr _ _ o1, o2⟩)⟩⟩
theorem call_core {gV : List V → List V → List V} (hD : ∀ R F ds vs es zs, RepL Γ R F ds vs → RepL Γ R F es zs → vs.length = n → zs.length = ks.length → RepL Γ R F (gD ds es) (gV vs zs) ∧ (gD ds es).length = ps.length) {σ : L2.St} {H : Hp} {Q : VK}
    (h : tM Γ W (cCall m n ks.length gD cs ck) σ H Q) : tCallNS n ks.length (spM Γ ps.length m) gV (WE W) (tMl Γ W cs) (tMl Γ W ck) σ H Q := by
  obtain ⟨F, E, C, R, ρ, S, rel, h⟩ := h
  refine ⟨F, E, C, R, ρ, S, rel, CKl.bindV h fun ds ρ1 S1 w1 vs x1 rel1 o1 ck1 => ⟨w1.F, w1.E, w1.C, w1.R, ρ1, S1, rel1, CKl.bindV ck1 fun es ρ2 S2 w2 zs x2 rel2 o2 ck2 => ?_⟩⟩
  split at ck2
  · rename_i hl
    have l1 : vs.length = n := by rw [← o1.length]; exact hl.1
    have l2 : zs.length = ks.length := by rw [← o2.length]; exact hl.2
    obtain ⟨r, ln⟩ := hD w2.R w2.F ds vs es zs (o1.up x2.gr) o2 l1 l2
    exact ⟨l1, l2, rel2.spM r ln ck2⟩
  · exact ck2.elim
theorem pm_call (F : FnOk X.prog X.w X.K X.mg X.base (L2.CX X.prog X.w) k f fd ps (spM Γ ps.length m)) (hr : Room k X.A) (hg : Gl X x) (hm : X.mg x = some (.ref f)) (hk : PySem.W.keepIn X.K (.ref f) = true) (hb : CallB Γ X.K fd ps n ks gD) (tk : Takes X W)
    (ha : PA X (e :: es) (tMl Γ W cs)) (hkw : PK X kws (tMl Γ W ck)) (hall : (backToKw pos (keywordEach kws X.env)).all (·.1.isSome) = true) (hks : (backToKw pos (keywordEach kws X.env)).filterMap (·.1) = ks)
    (hdb : (x == ("__debug__" : Str)) = false) (he : starEach (e :: es) X.env = (false, eval e X.env) :: starEach es X.env)
    (hpl : ((backTo pos (starEach (e :: es) X.env)).any (·.1) || (backToKw pos (keywordEach kws X.env)).any (·.1.isNone)) = false) :
    PE X (.Call (.Name x p) (e :: es) kws pos) (tM Γ W (cCall m n ks.length gD cs ck)) := by
  obtain ⟨g, gV, hb, hD⟩ := hb
  exact (pe_callNS F hr hg hm hk hb (fun σ => passAt tk σ) ha hkw hall hks hdb he hpl).imp fun _ _ _ h => call_core hD h
theorem pm_call0 (F : FnOk X.prog X.w X.K X.mg X.base (L2.CX X.prog X.w) k f fd ps (spM Γ ps.length m)) (hr : Room k X.A) (hg : Gl X x) (hm : X.mg x = some (.ref f)) (hk : PySem.W.keepIn X.K (.ref f) = true) (hb : CallB Γ X.K fd ps 0 ks gD) (tk : Takes X W)
    (hkw : PK X kws (tMl Γ W ck)) (hall : (backToKw pos (keywordEach kws X.env)).all (·.1.isSome) = true) (hks : (backToKw pos (keywordEach kws X.env)).filterMap (·.1) = ks)
    (hdb : (x == ("__debug__" : Str)) = false) (hpl : ((backTo pos (starEach [] X.env)).any (·.1) || (backToKw pos (keywordEach kws X.env)).any (·.1.isNone)) = false) :
    PE X (.Call (.Name x p) [] kws pos) (tM Γ W (cCall m 0 ks.length gD cNilD ck)) := by
  obtain ⟨g, gV, hb, hD⟩ := hb
  refine (pe_callNS0 F hr hg hm hk hb (fun σ => passAt tk σ) hkw hall hks hdb hpl).imp fun σ H Q h => ?_
  obtain ⟨F, E, C, R, ρ, S, rel, h⟩ := call_core hD h
  exact h ⟨F, E, C, R, H⟩ [] (.refl _) (fun _ => rfl) rel (by rw [RepL])
end
end DV

/-! DVh: statements by data: blocks, if, return, assignments, for, while; what is walked; a def by its body. -/
namespace DV
open PySem PySem.Spec PyProof.Rows L2

inductive Fl where
  | nx | rt (r : Rv) | bk | ct
section
variable (Γ : Gm) (W : WX) (P : List Nat)
/-- the pinned slots stand as they stood -/
def Pin (σ0 σ : L2.St) : Prop := ∀ i ∈ P, σ[i]? = σ0[i]?
/-- what a statement's outcome owes -/
def SK (w : Wd) (σ0 : L2.St) (D : Ends) : Res Fl → Prop
  | .ok .nx ρ' S' _ => ∀ w' σ', Ext w w' → Pin P σ0 σ' → Rel Γ w' ρ' S' σ' → D.nx σ' w'.H
  | .ok (.rt r) ρ' S' _ => ∀ w' σ' v, Ext w w' → Pin P σ0 σ' → Rel Γ w' ρ' S' σ' → RvOk Γ w w' [] r v → D.rt v w'.H
  | .ok .bk ρ' S' _ => ∀ w' σ', Ext w w' → Pin P σ0 σ' → Rel Γ w' ρ' S' σ' → D.bk σ' w'.H
  | .ok .ct ρ' S' _ => ∀ w' σ', Ext w w' → Pin P σ0 σ' → Rel Γ w' ρ' S' σ' → D.ct σ' w'.H
  | .ex x ρ' S' => ∀ w' σ' cls d, Ext w w' → Pin P σ0 σ' → Rel Γ w' ρ' S' σ' → XOk Γ w' x cls d → W cls d σ' w'.H
  | .bad => False
def tS (c : M Fl) : TS := fun D σ H => ∃ F E C R ρ S, Rel Γ ⟨F, E, C, R, H⟩ ρ S σ ∧ SK Γ W P ⟨F, E, C, R, H⟩ σ D (c ρ S)
end
section
variable {Γ : Gm} {W : WX} {P : List Nat} {w w1 w2 : Wd} {σ σ0 σ1 : L2.St} {ρ S : List Sl} {D : Ends}
theorem Pin.refl : Pin P σ σ := fun _ _ => rfl
theorem Pin.trans {σ2 : L2.St} (a : Pin P σ0 σ1) (b : Pin P σ1 σ2) : Pin P σ0 σ2 := fun i h => (b i h).trans (a i h)
theorem SK.ext {r : Res Fl} (x : Ext w w1) (p : Pin P σ0 σ1) (h : SK Γ W P w σ0 D r) : SK Γ W P w1 σ1 D r := by
  cases r with
  | ok f ρ S t =>
    cases f with
    | nx => exact fun w2 σ2 x2 p2 R2 => h w2 σ2 (x.trans x2) (p.trans p2) R2
    | rt r => exact fun w2 σ2 v x2 p2 R2 o2 => h w2 σ2 v (x.trans x2) (p.trans p2) R2 (o2.base x)
    | bk => exact fun w2 σ2 x2 p2 R2 => h w2 σ2 (x.trans x2) (p.trans p2) R2
    | ct => exact fun w2 σ2 x2 p2 R2 => h w2 σ2 (x.trans x2) (p.trans p2) R2
  | ex y ρ S => exact fun w2 σ2 cls d x2 p2 R2 o2 => h w2 σ2 cls d (x.trans x2) (p.trans p2) R2 o2
  | bad => exact h
theorem SK.addt {t : Bool} {r : Res Fl} : SK Γ W P w σ D (r.addt t) ↔ SK Γ W P w σ D r := by
  cases r with
  | ok f ρ S t' => cases f <;> exact Iff.rfl
  | ex _ _ _ => exact Iff.rfl
  | bad => exact Iff.rfl
/-- an expression, then a statement's rest -/
theorem CK.bindS {r : Res Rv} {f : Rv → List Sl → List Sl → Res Fl} {Q1 : VK} (h : SK Γ W P w σ D (r.bind f))
    (k : ∀ a ρ S w' v, Ext w w' → Rel Γ w' ρ S σ → RvOk Γ w w' σ a v → SK Γ W P w σ D (f a ρ S) → Q1 v w'.H) : CK Γ W w σ Q1 r := by
  cases r with
  | ok a ρ S t => exact fun w2 v x2 e2 R2 o2 => k a ρ S w2 v x2 R2 o2 (SK.addt.mp h)
  | ex y ρ S => exact fun w2 cls d x2 R2 o2 => h w2 σ cls d x2 .refl R2 o2
  | bad => exact h
theorem CK.datumS {c : M Rv} {f : DV.D → List Sl → List Sl → Res Fl} {Q1 : VK} (h : SK Γ W P w σ D ((cD c ρ S).bind f))
    (k : ∀ d ρ' S' w' v, Ext w w' → Rel Γ w' ρ' S' σ → Rep Γ w'.R w'.F d v → SK Γ W P w σ D (f d ρ' S') → Q1 v w'.H) : CK Γ W w σ Q1 (c ρ S) := by
  refine CKd.of (Qd := fun _ _ _ => True) ?_ fun d ρ' S' t w' v x e r o q => ?_
  · cases q : cD c ρ S with
    | ok a ρ1 S1 t => exact fun _ _ _ _ _ _ => True.intro
    | ex y ρ1 S1 => rw [q] at h; exact fun w2 cls d x2 R2 o2 => h w2 σ cls d x2 .refl R2 o2
    | bad => rw [q] at h; exact h
  · rw [q, Res.bind_ok] at h
    exact k d ρ' S' w' v x r o (SK.addt.mp h)
theorem CKb.bindS {r : Res Bool} {f : Bool → List Sl → List Sl → Res Fl} {Q1 : Bool → Hp → Prop} (h : SK Γ W P w σ D (r.bind f))
    (k : ∀ a ρ S w', Ext w w' → Rel Γ w' ρ S σ → SK Γ W P w σ D (f a ρ S) → Q1 a w'.H) : CKb Γ W w σ Q1 r := by
  cases r with
  | ok a ρ S t => exact fun w2 x2 e2 R2 => k a ρ S w2 x2 R2 (SK.addt.mp h)
  | ex y ρ S => exact fun w2 cls d x2 R2 o2 => h w2 σ cls d x2 .refl R2 o2
  | bad => exact h
theorem CKl.bindS {r : Res (List DV.D)} {f : List DV.D → List Sl → List Sl → Res Fl} {Q1 : List V → Hp → Prop} (h : SK Γ W P w σ D (r.bind f))
    (k : ∀ a ρ S w' v, Ext w w' → Rel Γ w' ρ S σ → RepL Γ w'.R w'.F a v → SK Γ W P w σ D (f a ρ S) → Q1 v w'.H) : CKl Γ W w σ Q1 r := by
  cases r with
  | ok a ρ S t => exact fun w2 v x2 e2 R2 o2 => k a ρ S w2 v x2 R2 o2 (SK.addt.mp h)
  | ex y ρ S => exact fun w2 cls d x2 R2 o2 => h w2 σ cls d x2 .refl R2 o2
  | bad => exact h
end

/-! ### blocks -/
def cNx : M Fl := fun ρ S => .ok .nx ρ S false
def cSeq (a b : M Fl) : M Fl := fun ρ S => match a ρ S with
  | .ok .nx ρ S _ => b ρ S
  | r => r
def cDrop (c : M Rv) : M Fl := fun ρ S => (c ρ S).bind fun _ ρ S => .ok .nx ρ S false
def cIfS (t : M Bool) (a b : M Fl) : M Fl := fun ρ S => (t ρ S).bind fun k ρ S => if k = true then a ρ S else b ρ S
/-- what is handed back: an own thing leaves its slot -/
def outR (r : Rv) : M Rv := fun ρ S => match r with
  | .env i => match ρ[i]? with
    | some s => if s.own? then .ok (.fr s) (ρ.set i .emp) S true else .bad
    | none => .bad
  | r => .ok r ρ S false
def cRet (c : M Rv) : M Fl := fun ρ S => (c ρ S).bind fun r ρ S => (outR r ρ S).bind fun r ρ S => .ok (.rt r) ρ S false
def cRetN : M Fl := fun ρ S => .ok (.rt (.d .non)) ρ S false
section
variable {X : Cx} {Γ : Gm} {W : WX} {P : List Nat} {st : Stmt} {rest : List Stmt} {e : Expr} {a b : M Fl} {c : M Rv} {t : M Bool} {pos : Pos}
theorem pms_nil : PSs X [] (tS Γ W P cNx) := pss_nil.imp fun D σ H ⟨F, E, C, R, ρ, S, rel, sk⟩ => sk ⟨F, E, C, R, H⟩ σ (.refl _) .refl rel
theorem seq_core {D : Ends} {σ : L2.St} {H : Hp} (h : tS Γ W P (cSeq a b) D σ H) : tSeq (tS Γ W P a) (tS Γ W P b) D σ H := by
  obtain ⟨F, E, C, R, ρ, S, rel, sk⟩ := h
  refine ⟨F, E, C, R, ρ, S, rel, ?_⟩
  unfold cSeq at sk
  cases q : a ρ S with
  | ok f ρ1 S1 t =>
    rw [q] at sk
    cases f with
    | nx => exact fun w1 σ1 x1 p1 r1 => ⟨w1.F, w1.E, w1.C, w1.R, ρ1, S1, r1, SK.ext x1 p1 sk⟩
    | rt r => exact sk
    | bk => exact sk
    | ct => exact sk
  | ex y ρ1 S1 => rw [q] at sk; exact sk
  | bad => rw [q] at sk; exact sk
theorem pms_cons (h1 : PS X st (tS Γ W P a)) (h2 : PSs X rest (tS Γ W P b)) : PSs X (st :: rest) (tS Γ W P (cSeq a b)) := (pss_cons h1 h2).imp fun _ _ _ h => seq_core h
theorem pms_one (h1 : PS X st (tS Γ W P a)) : PSs X [st] (tS Γ W P a) := pss_one h1
theorem pms_pass : PS X (.Pass pos) (tS Γ W P cNx) := ps_pass.imp fun D σ H ⟨F, E, C, R, ρ, S, rel, sk⟩ => sk ⟨F, E, C, R, H⟩ σ (.refl _) .refl rel
theorem pms_break : PS X (.Break pos) (tS Γ W P (fun ρ S => .ok .bk ρ S false)) := ps_break.imp fun D σ H ⟨F, E, C, R, ρ, S, rel, sk⟩ => sk ⟨F, E, C, R, H⟩ σ (.refl _) .refl rel
theorem pms_continue : PS X (.Continue pos) (tS Γ W P (fun ρ S => .ok .ct ρ S false)) := ps_continue.imp fun D σ H ⟨F, E, C, R, ρ, S, rel, sk⟩ => sk ⟨F, E, C, R, H⟩ σ (.refl _) .refl rel
theorem pms_expr (he : PE X e (tM Γ W c)) (hs : swapsWith e none pos.line X.env = pure false) : PS X (.Expr e pos) (tS Γ W P (cDrop c)) :=
  (ps_expr he hs).imp fun D σ H ⟨F, E, C, R, ρ, S, rel, sk⟩ => ⟨F, E, C, R, ρ, S, rel, CK.bindS sk fun r ρ1 S1 w1 v x1 rel1 o1 sk1 => sk1 w1 σ x1 .refl rel1⟩
theorem out_ok {w0 w1 : Wd} {σ : L2.St} {ρ S : List Sl} {r r' : Rv} {ρ' S' : List Sl} {t : Bool} {v : V} (x : Ext w0 w1) (h : Rel Γ w1 ρ S σ) (o : RvOk Γ w0 w1 σ r v) (e : outR r ρ S = .ok r' ρ' S' t) :
    ∃ w2, w2.H = w1.H ∧ Ext w0 w2 ∧ Rel Γ w2 ρ' S' σ ∧ RvOk Γ w0 w2 [] r' v := by
  cases r with
  | d _ => cases e; exact ⟨w1, rfl, x, h, o⟩
  | fr _ => cases e; exact ⟨w1, rfl, x, h, o⟩
  | env i =>
    have o' : σ[i]? = some (some v) := o
    unfold outR at e
    cases q : ρ[i]? with
    | none => simp [q] at e
    | some s =>
      simp only [q] at e
      split at e
      · rename_i hs
        cases e
        obtain ⟨o2, A, B, b, h1, h2, h3, h4⟩ := h.own.env_at q
        rw [o'] at h1; cases h1
        obtain ⟨v', e', ow⟩ := h3.of_own hs
        cases e'
        have g := h.good
        have eAd : w1.ad = A.map (·.1) ++ b.map (·.1) ++ (B ++ w1.C).map (·.1) := by show (w1.E ++ w1.C).map _ = _; rw [h2]; simp
        have nd := g.nd
        rw [eAd] at nd
        obtain ⟨q1, q2, q3⟩ := List.nodup_append.mp nd
        obtain ⟨q4, ndb, q6⟩ := List.nodup_append.mp q1
        have mem : ∀ p, p ∈ A ++ B ++ w1.C → p ∈ w1.E ++ w1.C := fun p hp => by
          rw [h2]
          simp only [List.mem_append] at hp ⊢
          rcases hp with (z | z) | z <;> simp [z]
        have out : ∀ a, a ∈ b.map (·.1) → a ∉ (A ++ B ++ w1.C).map (·.1) := fun a z y => by
          have hp : a ∈ A.map (·.1) ∨ a ∈ (B ++ w1.C).map (·.1) := by simp only [List.map_append, List.mem_append] at y ⊢; rcases y with (y | y) | y <;> simp [y]
          rcases hp with y | y
          · exact q6 _ y _ z rfl
          · exact q3 _ (List.mem_append_right _ z) _ y rfl
        refine ⟨{ w1 with E := A ++ B }, rfl, ⟨x.gr, x.keep, x.tab, fun a z => ?_, x.fnew, x.live⟩, ⟨⟨g.sub, fun p hp => g.cell p (mem p hp), ?_⟩, ?_⟩, b, ow, ⟨fun p hp => ?_, ndb⟩, fun p hp => ?_⟩
        · obtain ⟨p, hp, rfl⟩ := List.mem_map.mp z
          exact x.cnew _ (List.mem_map_of_mem (mem p hp))
        · show ((A ++ B ++ w1.C).map (·.1)).Nodup
          rw [List.append_assoc, List.map_append]
          exact List.nodup_append.mpr ⟨q4, q2, fun a ha c hc => q3 a (List.mem_append_left _ ha) c hc⟩
        · have z := h4 w1.F (fun _ _ h => h) .emp (some v) [] rfl
          rw [set_same o'] at z
          simpa using z
        · have hc := g.cell p (by rw [h2]; simp [hp])
          exact ⟨hc.1, hc.2, out _ (List.mem_map_of_mem hp), Own.nt _ _ _ ow p hp⟩
        · rcases x.cnew p.1 (by rw [eAd]; simp only [List.mem_append]; exact .inl (.inr (List.mem_map_of_mem hp))) with z | z
          · exact .inr z
          · exact .inl z
      · cases e
theorem pms_ret (he : PE X e (tM Γ W c)) : PS X (.Return (some e) pos) (tS Γ W P (cRet c)) :=
  (ps_ret he).imp fun D σ H ⟨F, E, C, R, ρ, S, rel, sk⟩ => ⟨F, E, C, R, ρ, S, rel, CK.bindS sk fun r ρ1 S1 w1 v x1 rel1 o1 sk1 => by
    cases q : outR r ρ1 S1 with
    | ok r2 ρ2 S2 t2 =>
      rw [q, Res.bind_ok] at sk1
      obtain ⟨w2, eH, x2, rel2, o2⟩ := out_ok x1 rel1 o1 q
      rw [← eH]
      exact (SK.addt.mp sk1) w2 σ v x2 .refl rel2 o2
    | ex y ρ2 S2 =>
      exfalso
      unfold outR at q
      cases r with
      | d _ => simp at q
      | fr _ => simp at q
      | env i =>
        simp only at q
        split at q
        · split at q <;> simp at q
        · simp at q
    | bad => rw [q] at sk1; exact sk1.elim⟩
theorem pms_retN : PS X (.Return none pos) (tS Γ W P cRetN) := ps_retN.imp fun D σ H ⟨F, E, C, R, ρ, S, rel, sk⟩ => sk ⟨F, E, C, R, H⟩ σ .non (.refl _) .refl rel (show Rep Γ R F .non .non by rw [Rep])
theorem pms_if {g : Expr} {x y : List Stmt} (hc : PT X g (tMb Γ W t)) (ha : PSs X x (tS Γ W P a)) (hb : PSs X y (tS Γ W P b)) : PS X (.If g x y pos) (tS Γ W P (cIfS t a b)) :=
  (ps_if hc ha hb).imp fun D σ H ⟨F, E, C, R, ρ, S, rel, sk⟩ => ⟨F, E, C, R, ρ, S, rel, CKb.bindS sk fun k ρ1 S1 w1 x1 rel1 sk1 => by
    cases k with
    | true => exact ⟨w1.F, w1.E, w1.C, w1.R, ρ1, S1, rel1, SK.ext x1 .refl sk1⟩
    | false => exact ⟨w1.F, w1.E, w1.C, w1.R, ρ1, S1, rel1, SK.ext x1 .refl sk1⟩⟩
end

/-! ### assignments to names -/
/-- into a slot: own keeps a new thing as the slot's own -/
def setS (own : Bool) (i : Nat) (r : Rv) : M Fl := fun ρ S => match own, r with
  | true, .fr s => if i < ρ.length then .ok .nx (ρ.set i s) S false else .bad
  | _, r => (toD r ρ S).bind fun d ρ S => if i < ρ.length then .ok .nx (ρ.set i (.val d)) S false else .bad
section
variable {X : Cx} {Γ : Gm} {W : WX} {P : List Nat} {w0 w1 : Wd} {σ : L2.St} {ρ S : List Sl}
/-- a slot is overwritten -/
theorem Rel.setSlot {i : Nat} {s' : Sl} {v : V} {c : Cells} (x : Ext w0 w1) (h : Rel Γ w1 ρ S σ) (hi : i < ρ.length) (ow : Own Γ w1.R w1.F s' v c) (f : Fresh w1 c) (b : ∀ p ∈ c, w0.H p.1 = none ∨ p.1 ∈ w0.ad) :
    ∃ w2, w2.H = w1.H ∧ Ext w0 w2 ∧ Rel Γ w2 (ρ.set i s') S (σ.set i (some v)) := by
  obtain ⟨s, hs⟩ : ∃ s, ρ[i]? = some s := ⟨ρ[i], by simp [hi]⟩
  obtain ⟨o2, A, B, b2, h1, h2, h3, h4⟩ := h.own.env_at hs
  have g := h.good
  have eAd : w1.ad = A.map (·.1) ++ b2.map (·.1) ++ (B ++ w1.C).map (·.1) := by show (w1.E ++ w1.C).map _ = _; rw [h2]; simp
  have nd := g.nd
  rw [eAd] at nd
  obtain ⟨q1, q2, q3⟩ := List.nodup_append.mp nd
  obtain ⟨q4, q5, q6⟩ := List.nodup_append.mp q1
  have mem : ∀ p, p ∈ A ++ c ++ B ++ w1.C → p ∈ w1.E ++ w1.C ∨ p ∈ c := fun p hp => by
    rw [h2]
    simp only [List.mem_append] at hp ⊢
    rcases hp with ((z | z) | z) | z <;> simp [z]
  have inAd : ∀ a, a ∈ A.map (·.1) ∨ a ∈ (B ++ w1.C).map (·.1) → a ∈ w1.ad := fun a z => by
    rw [eAd]
    rcases z with z | z
    · exact List.mem_append_left _ (List.mem_append_left _ z)
    · exact List.mem_append_right _ z
  refine ⟨{ w1 with E := A ++ c ++ B }, rfl, ⟨x.gr, x.keep, x.tab, fun a z => ?_, x.fnew, x.live⟩, ⟨⟨g.sub, fun p hp => ?_, ?_⟩, h4 w1.F (fun _ _ h => h) s' (some v) c (.mk ow)⟩⟩
  · obtain ⟨p, hp, rfl⟩ := List.mem_map.mp z
    rcases mem p hp with y | y
    · exact x.cnew _ (List.mem_map_of_mem y)
    · rcases b p y with y | y
      · exact .inr y
      · exact .inl y
  · rcases mem p hp with y | y
    · exact g.cell p y
    · exact ⟨(f.at_ p y).1, (f.at_ p y).2.1⟩
  · show ((A ++ c ++ B ++ w1.C).map (·.1)).Nodup
    have e : (A ++ c ++ B ++ w1.C).map (·.1) = (A.map (·.1) ++ c.map (·.1)) ++ (B ++ w1.C).map (·.1) := by simp
    rw [e]
    have fr : ∀ a ∈ c.map (·.1), a ∉ w1.ad := fun a z => by
      obtain ⟨p, hp, rfl⟩ := List.mem_map.mp z
      exact (f.at_ p hp).2.2.1
    refine List.nodup_append.mpr ⟨List.nodup_append.mpr ⟨q4, f.nd, fun a ha b hb e => fr b hb (inAd b (.inl (e ▸ ha)))⟩, q2, fun a ha b hb e => ?_⟩
    rcases List.mem_append.mp ha with z | z
    · exact q3 a (List.mem_append_left _ z) b hb e
    · exact fr a z (inAd a (.inr (e ▸ hb)))
theorem Rel.setVal {i : Nat} {d : D} {v : V} (h : Rel Γ w1 ρ S σ) (hi : i < ρ.length) (r : Rep Γ w1.R w1.F d v) : ∃ w2, w2.H = w1.H ∧ Ext w1 w2 ∧ Rel Γ w2 (ρ.set i (.val d)) S (σ.set i (some v)) ∧ w2.F = w1.F ∧ w2.R = w1.R := by
  obtain ⟨s, hs⟩ : ∃ s, ρ[i]? = some s := ⟨ρ[i], by simp [hi]⟩
  obtain ⟨o2, A, B, b2, h1, h2, h3, h4⟩ := h.own.env_at hs
  have g := h.good
  have eAd : w1.ad = A.map (·.1) ++ b2.map (·.1) ++ (B ++ w1.C).map (·.1) := by show (w1.E ++ w1.C).map _ = _; rw [h2]; simp
  have nd := g.nd
  rw [eAd] at nd
  obtain ⟨q1, q2, q3⟩ := List.nodup_append.mp nd
  obtain ⟨q4, q5, q6⟩ := List.nodup_append.mp q1
  have mem : ∀ p, p ∈ A ++ B ++ w1.C → p ∈ w1.E ++ w1.C := fun p hp => by
    rw [h2]
    simp only [List.mem_append] at hp ⊢
    rcases hp with (z | z) | z <;> simp [z]
  refine ⟨{ w1 with E := A ++ B }, rfl, ⟨.refl, fun _ _ h _ _ => h, fun _ ps h => ⟨#[], by simpa using h⟩, fun a z => ?_, fun _ _ h => .inl h, fun _ o h => ⟨o, h⟩⟩, ⟨⟨g.sub, fun p hp => g.cell p (mem p hp), ?_⟩, ?_⟩, rfl, rfl⟩
  · obtain ⟨p, hp, rfl⟩ := List.mem_map.mp z
    exact .inl (List.mem_map_of_mem (mem p hp))
  · show ((A ++ B ++ w1.C).map (·.1)).Nodup
    rw [List.append_assoc, List.map_append]
    exact List.nodup_append.mpr ⟨q4, q2, fun a ha c hc => q3 a (List.mem_append_left _ ha) c hc⟩
  · have z := h4 w1.F (fun _ _ h => h) (.val d) (some v) [] ⟨v, rfl, by rw [Own]; exact ⟨rfl, r⟩⟩
    simpa using z
theorem Pin.set {i : Nat} {o : Option V} (h : i ∉ P) : Pin P σ (σ.set i o) := fun j hj => List.getElem?_set_ne fun e => h (by rw [e]; exact hj)
theorem setS_ok {D : Ends} {own : Bool} {i : Nat} {r : Rv} {v : V} (hp : i ∉ P) (x : Ext w0 w1) (h : Rel Γ w1 ρ S σ) (o : RvOk Γ w0 w1 σ r v) (sk : SK Γ W P w0 σ D (setS own i r ρ S)) : D.nx (σ.set i (some v)) w1.H := by
  have data : SK Γ W P w0 σ D ((toD r ρ S).bind fun d ρ S => if i < ρ.length then .ok .nx (ρ.set i (.val d)) S false else .bad) → D.nx (σ.set i (some v)) w1.H := fun sk => by
    cases q : toD r ρ S with
    | ok d ρ2 S2 t =>
      rw [q, Res.bind_ok] at sk
      have sk := SK.addt.mp sk
      obtain ⟨w2, eH, x2, r2, rep, _⟩ := toD_ok x h o q
      split at sk
      · rename_i hi
        obtain ⟨w3, e3, x3, r3, _, _⟩ := r2.setVal hi rep
        have z := sk w3 (σ.set i (some v)) (x2.trans x3) (.set hp) r3
        rw [e3, eH] at z
        exact z
      · exact sk.elim
    | ex y _ _ => exact absurd q toD_noex
    | bad => rw [q] at sk; exact sk.elim
  unfold setS at sk
  cases own with
  | false => exact data sk
  | true =>
    cases r with
    | d _ => exact data sk
    | env _ => exact data sk
    | fr s =>
      simp only at sk
      split at sk
      · rename_i hi
        obtain ⟨c, ow, f, b⟩ := o
        obtain ⟨w2, eH, x2, r2⟩ := Rel.setSlot x h hi ow f b
        have z := sk w2 (σ.set i (some v)) x2 (.set hp) r2
        rw [eH] at z
        exact z
      · exact sk.elim
/-- name = e -/
def cSet (own : Bool) (i : Nat) (c : M Rv) : M Fl := fun ρ S => (c ρ S).bind fun r ρ S => setS own i r ρ S
theorem pms_set {x : Str} {e : Expr} {c : M Rv} {own : Bool} {i : Nat} {pos npos : Pos} (he : PE X e (tM Γ W c)) (hp : i ∉ P) (hN : X.N.Nodup) (hi : X.N[i]? = some x) (hx : Loc X.env.scope x) (hf : X.fn x = true ∨ X.env.scope.names.lookup x = some .local)
    (hs : swapsWithSole [.Name x npos] e pos.line X.env = pure false) (hw : swappedStores [.Name x npos] e X.env = pure none) : PS X (.Assign [.Name x npos] e pos) (tS Γ W P (cSet own i c)) :=
  (ps_asg he (pg_name hN hi hx hf) hs hw).imp fun D σ H ⟨F, E, C, R, ρ, S, rel, sk⟩ => ⟨F, E, C, R, ρ, S, rel, CK.bindS sk fun r ρ1 S1 w1 v x1 rel1 o1 sk1 => setS_ok hp x1 rel1 o1 sk1⟩
end
end DV

/-! DVi: loop targets, what is walked, for, while, list comprehensions. -/
namespace DV
open PySem PySem.Spec PyProof.Rows L2

/-! ### targets -/
inductive Tgt where
  | nm (i : Nat) | tp (is : List Nat)
def Tgt.slots : Tgt → List Nat
  | .nm i => [i]
  | .tp is => is
def bindL : List Nat → List D → List Sl → Option (List Sl)
  | [], [], ρ => some ρ
  | i :: is, d :: ds, ρ => if i < ρ.length then bindL is ds (ρ.set i (.val d)) else none
  | _, _, _ => none
def bindT : Tgt → D → List Sl → Option (List Sl)
  | .nm i, d, ρ => if i < ρ.length then some (ρ.set i (.val d)) else none
  | .tp is, .tup ds, ρ => bindL is ds ρ
  | _, _, _ => none
def gNames : List Nat → TGs
  | [] => gNil
  | i :: is => gCons (gName i) (gNames is)
/-- the target of that reading binds as the data do -/
def TgOk (Γ : Gm) (t : TG) (g : Tgt) : Prop := ∀ (w : Wd) (ρ S : List Sl) (σ : L2.St) (d : D) (v : V) (ρ' : List Sl) (Q : L2.St → Hp → Prop), Rel Γ w ρ S σ → Rep Γ w.R w.F d v → bindT g d ρ = some ρ' →
  (∀ w' σ', w'.H = w.H → Ext w w' → w'.F = w.F → w'.R = w.R → Rel Γ w' ρ' S σ' → (∀ j, j ∉ g.slots → σ'[j]? = σ[j]?) → σ'.length = σ.length → Q σ' w'.H) → t v σ w.H Q
section
variable {Γ : Gm}
theorem tg_nm (i : Nat) : TgOk Γ (gName i) (.nm i) := by
  intro w ρ S σ d v ρ' Q h r e k
  simp only [bindT] at e
  split at e
  · rename_i hi
    cases e
    obtain ⟨w2, eH, x2, r2, eF, eR⟩ := h.setVal hi r
    have z := k w2 (σ.set i (some v)) eH x2 eF eR r2 (fun j hj => List.getElem?_set_ne fun e => hj (by rw [e]; simp [Tgt.slots])) (by simp)
    rw [eH] at z
    exact z
  · cases e
theorem tg_names : ∀ (is : List Nat) (w : Wd) (ρ S : List Sl) (σ : L2.St) (ds : List D) (vs : List V) (ρ' : List Sl) (Q : L2.St → Hp → Prop), Rel Γ w ρ S σ → RepL Γ w.R w.F ds vs → bindL is ds ρ = some ρ' →
    (∀ w' σ', w'.H = w.H → Ext w w' → w'.F = w.F → w'.R = w.R → Rel Γ w' ρ' S σ' → (∀ j, j ∉ is → σ'[j]? = σ[j]?) → σ'.length = σ.length → Q σ' w'.H) → gNames is vs σ w.H Q
  | [], w, ρ, S, σ, ds, vs, ρ', Q, h, l, e, k => by
    cases ds with
    | nil =>
      simp only [bindL, Option.some.injEq] at e
      subst e
      rw [RepL] at l
      exact ⟨l, k w σ rfl (.refl _) rfl rfl h (fun _ _ => rfl) rfl⟩
    | cons _ _ => simp [bindL] at e
  | i :: is, w, ρ, S, σ, ds, vs, ρ', Q, h, l, e, k => by
    cases ds with
    | nil => simp [bindL] at e
    | cons d ds =>
      simp only [bindL] at e
      split at e
      · rename_i hi
        rw [RepL] at l
        obtain ⟨v, vs', e1, r, l⟩ := l
        obtain ⟨w2, eH, x2, r2, eF, eR⟩ := h.setVal hi r
        refine ⟨v, vs', e1, ?_⟩
        show gNames is vs' (σ.set i (some v)) w.H Q
        rw [← eH]
        refine tg_names is w2 _ S _ ds vs' ρ' Q r2 (by rw [eF, eR]; exact l) e fun w3 σ3 eH3 x3 eF3 eR3 r3 same len => ?_
        refine k w3 σ3 (eH3.trans eH) (x2.trans x3) (eF3.trans eF) (eR3.trans eR) r3 (fun j hj => ?_) (by rw [len]; simp)
        rw [same j fun z => hj (List.mem_cons_of_mem _ z)]
        exact List.getElem?_set_ne fun e => hj (by rw [e]; simp)
      · cases e
theorem tg_tp {K : PySem.W.Frag} {is : List Nat} {n : Nat} (hn : is.length = n) : TgOk Γ (gTup K n (gNames is)) (.tp is) := by
  intro w ρ S σ d v ρ' Q h r e k
  cases d with
  | tup ds =>
    rw [Rep] at r
    obtain ⟨a, ys, ev, ha, l⟩ := r
    have len : ∀ (is : List Nat) (ds : List D) (ρ : List Sl), bindL is ds ρ = some ρ' → ds.length = is.length := by
      intro is
      induction is with
      | nil => intro ds ρ e; cases ds with | nil => rfl | cons _ _ => simp [bindL] at e
      | cons i is ih =>
        intro ds ρ e
        cases ds with
        | nil => simp [bindL] at e
        | cons d ds =>
          simp only [bindL] at e
          split at e
          · rw [List.length_cons, List.length_cons, ih _ _ e]
          · cases e
    exact ⟨a, ys, ev, SqT.of (h.good.sub _ _ ha), by rw [← l.length, len is ds ρ e]; exact hn, tg_names is w ρ S σ ds ys ρ' Q h l e k⟩
  | _ => cases e
end

/-! ### what is walked -/
structure Walk (Γ : Gm) (J : It) (ds : List D) (I : Wd → Prop) : Prop where
  up : ∀ w w', I w → Gr w.R w'.R w.F w'.F → I w'
  go : ∀ i w d, I w → Good w → ds[i]? = some d → J.go i w.H ∧ ∀ x H', J.yld i w.H x H' → ∃ w', w'.H = H' ∧ Ext w w' ∧ w'.E = w.E ∧ w'.C = w.C ∧ w'.R = w.R ∧ Good w' ∧ Rep Γ w'.R w'.F d x
  stop : ∀ w, I w → Good w → J.stop ds.length w.H
section
variable (Γ : Gm) (W : WX)
def CKi (w : Wd) (σ : L2.St) (Q : It → Hp → Prop) : Res (List D) → Prop
  | .ok ds ρ' S' _ => ∀ w' J I, Ext w w' → Rel Γ w' ρ' S' σ → I w' → Walk Γ J ds I → Q J w'.H
  | .ex x ρ' S' => ∀ w' cls d, Ext w w' → Rel Γ w' ρ' S' σ → XOk Γ w' x cls d → W cls d σ w'.H
  | .bad => False
def tI (c : M (List D)) : TI := fun σ H Q => ∃ F E C R ρ S, Rel Γ ⟨F, E, C, R, H⟩ ρ S σ ∧ CKi Γ W ⟨F, E, C, R, H⟩ σ Q (c ρ S)
end
theorem _root_.L2.PI.imp {X : Cx} {tg e : Expr} {t t' : TI} (h : PI X tg e t) (k : ∀ σ H Q, t' σ H Q → t σ H Q) : PI X tg e t' := ⟨fun pins s σ H Q I hw => h.run pins s σ H Q I (k σ H Q hw)⟩
theorem _root_.L2.PI.or {X : Cx} {tg e : Expr} {t t' : TI} (h : PI X tg e t) (h' : PI X tg e t') : PI X tg e (fun σ H Q => t σ H Q ∨ t' σ H Q) :=
  ⟨fun pins s σ H Q I hw => hw.elim (fun z => h.run pins s σ H Q I z) (fun z => h'.run pins s σ H Q I z)⟩
/-- the items of a datum -/
def D.its : D → Option (List D)
  | .str z => some (z.cps.toList.map fun c => .str ⟨#[c]⟩)
  | d => d.items
def cIts (c : M Rv) : M (List D) := fun ρ S => (cD c ρ S).bind fun d ρ S => match d.its with
  | some ds => .ok ds ρ S false
  | none => .bad
/-- range(n), range(a, b) -/
def rangeD (lo : Int) (n : Nat) : List D := (List.range n).map fun (i : Nat) => .int (lo + i)
def cRng1 (cs : M (List D)) : M (List D) := fun ρ S => (cs ρ S).bind fun ds ρ S => match ds with
  | [.int j] => if -(2 ^ 62) ≤ j ∧ j < 2 ^ 62 then .ok (rangeD 0 j.toNat) ρ S false else .bad
  | _ => .bad
def cRng2 (cs : M (List D)) : M (List D) := fun ρ S => (cs ρ S).bind fun ds ρ S => match ds with
  | [.int i, .int j] => if -(2 ^ 62) ≤ i ∧ i < 2 ^ 62 ∧ -(2 ^ 62) ≤ j ∧ j < 2 ^ 62 then .ok (rangeD i (j - i).toNat) ρ S false else .bad
  | _ => .bad
def enumD : Nat → List D → List D
  | _, [] => []
  | i, d :: ds => .tup [.int i, d] :: enumD (i + 1) ds
def cEnum (cs : M (List D)) : M (List D) := fun ρ S => (cs ρ S).bind fun ds ρ S => match ds with
  | [.lst xs] => .ok (enumD 0 xs) ρ S false
  | [.kl xs] => .ok (enumD 0 xs) ρ S false
  | _ => .bad
def zipD : List D → List D → List D
  | x :: xs, y :: ys => .tup [x, y] :: zipD xs ys
  | _, _ => []
def cZip (cs : M (List D)) : M (List D) := fun ρ S => (cs ρ S).bind fun ds ρ S => match ds with
  | [.lst xs, .lst ys] => .ok (zipD xs ys) ρ S false
  | [.tup xs, .tup ys] => .ok (zipD xs ys) ρ S false
  | [.tup xs, .kt ys] => .ok (zipD xs ys) ρ S false
  | [.kt xs, .tup ys] => .ok (zipD xs ys) ρ S false
  | _ => .bad
section
variable {X : Cx} {Γ : Gm} {W : WX} {w w0 w1 : Wd} {σ : L2.St} {ρ S : List Sl}
theorem CK.datumI {c : M Rv} {f : D → List Sl → List Sl → Res (List D)} {Q : It → Hp → Prop} {Q1 : VK} (h : CKi Γ W w σ Q ((cD c ρ S).bind f))
    (k : ∀ d ρ' S' w' v, Ext w w' → Rel Γ w' ρ' S' σ → Rep Γ w'.R w'.F d v → CKi Γ W w σ Q (f d ρ' S') → Q1 v w'.H) : CK Γ W w σ Q1 (c ρ S) := by
  refine CKd.of (Qd := fun _ _ _ => True) ?_ fun d ρ' S' t w' v x e r o q => ?_
  · cases q : cD c ρ S with
    | ok a ρ1 S1 t => exact fun _ _ _ _ _ _ => True.intro
    | ex y ρ1 S1 => rw [q] at h; exact h
    | bad => rw [q] at h; exact h
  · rw [q, Res.bind_ok] at h
    refine k d ρ' S' w' v x r o ?_
    cases q2 : f d ρ' S' with
    | ok ds ρ2 S2 t2 => rw [q2] at h; exact h
    | ex y ρ2 S2 => rw [q2] at h; exact h
    | bad => rw [q2] at h; exact h
theorem CKl.bindI {r : Res (List D)} {f : List D → List Sl → List Sl → Res (List D)} {Q : It → Hp → Prop} {Q1 : List V → Hp → Prop} (h : CKi Γ W w σ Q (r.bind f))
    (k : ∀ a ρ S w' v, Ext w w' → Rel Γ w' ρ S σ → RepL Γ w'.R w'.F a v → CKi Γ W w σ Q (f a ρ S) → Q1 v w'.H) : CKl Γ W w σ Q1 r := by
  cases r with
  | ok a ρ S t =>
    rw [Res.bind_ok] at h
    refine fun w2 v x2 e2 R2 o2 => k a ρ S w2 v x2 R2 o2 ?_
    cases q2 : f a ρ S with
    | ok ds ρ2 S2 t2 => rw [q2] at h; exact h
    | ex y ρ2 S2 => rw [q2] at h; exact h
    | bad => rw [q2] at h; exact h
  | ex y ρ S => exact h
  | bad => exact h
theorem rep_up {R : List Addr} {F F' : Hp} (up : ∀ a u, F a = some u → F' a = some u) {d : D} {v : V} (h : Rep Γ R F d v) : Rep Γ R F' d v := Rep.up ⟨⟨[], by simp⟩, up⟩ _ _ h
theorem repL_up {w w' : Wd} (x : Gr w.R w'.R w.F w'.F) {d : List D} {v : List V} (h : RepL Γ w.R w.F d v) : RepL Γ w'.R w'.F d v := RepL.up x _ _ h
/-- a list that stands still -/
theorem walk_list {K : PySem.W.Frag} {ds : List D} {a : Addr} {ys : List V} : Walk Γ (Itl K a) ds (fun w => SqL K w.F a ys ∧ RepL Γ w.R w.F ds ys) where
  up := fun w w' h x => ⟨SqL.up x.f h.1, repL_up x h.2⟩
  go := fun i w d h g e => by
    obtain ⟨v, h1, h2⟩ := h.2.get e
    exact ⟨⟨ys, v, SqL.up g.sub h.1, h1⟩, fun x H' ⟨e1, e2⟩ => by
      subst e1
      have z := e2 ys (SqL.up g.sub h.1)
      rw [h1] at z; cases z
      exact ⟨w, rfl, .refl w, rfl, rfl, rfl, g, h2⟩⟩
  stop := fun w h g => ⟨ys, SqL.up g.sub h.1, by rw [h.2.length]; exact Nat.le_refl _⟩
theorem walk_tup {K : PySem.W.Frag} {ds : List D} {a : Addr} {ys : List V} : Walk Γ (Itt K a) ds (fun w => SqT K w.F a ys ∧ RepL Γ w.R w.F ds ys) where
  up := fun w w' h x => ⟨SqT.up x.f h.1, repL_up x h.2⟩
  go := fun i w d h g e => by
    obtain ⟨v, h1, h2⟩ := h.2.get e
    exact ⟨⟨ys, v, SqT.up g.sub h.1, h1⟩, fun x H' ⟨e1, e2⟩ => by
      subst e1
      have z := e2 ys (SqT.up g.sub h.1)
      rw [h1] at z; cases z
      exact ⟨w, rfl, .refl w, rfl, rfl, rfl, g, h2⟩⟩
  stop := fun w h g => ⟨ys, SqT.up g.sub h.1, by rw [h.2.length]; exact Nat.le_refl _⟩
theorem walk_str {z : Str} : Walk Γ (Its z) (z.cps.toList.map fun c => .str ⟨#[c]⟩) (fun _ => True) where
  up := fun _ _ h _ => h
  go := fun i w d h g e => by
    rw [List.getElem?_map] at e
    obtain ⟨c, e1, e2⟩ := Option.map_eq_some_iff.mp e
    subst e2
    have e1' : z.cps[i]? = some c := by simpa using e1
    have hi : i < z.cps.size := (Array.getElem?_eq_some_iff.mp e1').1
    exact ⟨hi, fun x H' ⟨e3, c', e4, e5⟩ => by
      subst e3 e5
      rw [e1'] at e4; cases e4
      exact ⟨w, rfl, .refl w, rfl, rfl, rfl, g, by rw [Rep]⟩⟩
  stop := fun w h g => by show z.cps.size ≤ _; simp
theorem walk_range {lo : Int} {n : Nat} : Walk Γ (Itr lo n) (rangeD lo n) (fun _ => True) where
  up := fun _ _ h _ => h
  go := fun i w d h g e => by
    unfold rangeD at e
    rw [List.getElem?_map] at e
    obtain ⟨c, e1, e2⟩ := Option.map_eq_some_iff.mp e
    subst e2
    obtain ⟨hi, ec⟩ := List.getElem?_eq_some_iff.mp e1
    rw [List.length_range] at hi
    rw [List.getElem_range] at ec
    subst ec
    exact ⟨hi, fun x H' ⟨e3, e4⟩ => by
      subst e3 e4
      exact ⟨w, rfl, .refl w, rfl, rfl, rfl, g, by rw [Rep]⟩⟩
  stop := fun w h g => by show n ≤ _; simp [rangeD]
theorem enumD_get : ∀ (xs : List D) (k i : Nat) (d : D), (enumD k xs)[i]? = some d → ∃ x, xs[i]? = some x ∧ d = .tup [.int ((k + i : Nat) : Int), x]
  | [], k, i, d, e => by simp [enumD] at e
  | x :: xs, k, 0, d, e => by simp [enumD] at e; exact ⟨x, by simp, by rw [← e]; simp⟩
  | x :: xs, k, i + 1, d, e => by
    obtain ⟨y, h1, h2⟩ := enumD_get xs (k + 1) i d (by simpa [enumD] using e)
    refine ⟨y, by simpa using h1, ?_⟩
    rw [h2]
    have : k + 1 + i = k + (i + 1) := by omega
    rw [this]
theorem enumD_length : ∀ (xs : List D) (k : Nat), (enumD k xs).length = xs.length
  | [], k => rfl
  | x :: xs, k => by rw [enumD, List.length_cons, List.length_cons, enumD_length]
theorem walk_enum {K : PySem.W.Frag} {ds : List D} {a : Addr} {ys : List V} : Walk Γ (Ite K a) (enumD 0 ds) (fun w => SqL K w.F a ys ∧ RepL Γ w.R w.F ds ys) where
  up := fun w w' h x => ⟨SqL.up x.f h.1, repL_up x h.2⟩
  go := fun i w d h g e => by
    obtain ⟨y, e1, e2⟩ := enumD_get _ _ _ _ e
    obtain ⟨v, h1, h2⟩ := h.2.get e1
    refine ⟨⟨ys, v, SqL.up g.sub h.1, h1⟩, fun x H' ⟨T, x', e3, hT, e4, e5⟩ => ?_⟩
    have z := e5 ys (SqL.up g.sub h.1)
    rw [h1] at z; cases z
    subst e3 e4 e2
    refine ⟨{ w with F := upd w.F T (.tup [.int (i : Nat), v]), H := upd w.H T (.tup [.int (i : Nat), v]) }, rfl, .newF g hT, rfl, rfl, rfl, .newF g hT, ?_⟩
    rw [Rep]
    refine ⟨T, _, rfl, upd_same, ?_⟩
    rw [RepL]
    refine ⟨_, _, rfl, by rw [Rep]; first | rfl | simp, ?_⟩
    rw [RepL]
    exact ⟨_, _, rfl, rep_up (updF_up (g.none_of hT).1) h2, by rw [RepL]⟩
  stop := fun w h g => ⟨ys, SqL.up g.sub h.1, by rw [enumD_length, h.2.length]; exact Nat.le_refl _⟩
theorem zipD_get : ∀ (xs ys : List D) (i : Nat) (d : D), (zipD xs ys)[i]? = some d → ∃ x y, xs[i]? = some x ∧ ys[i]? = some y ∧ d = .tup [x, y]
  | [], ys, i, d, e => by simp [zipD] at e
  | _ :: _, [], i, d, e => by simp [zipD] at e
  | x :: xs, y :: ys, 0, d, e => by simp [zipD] at e; exact ⟨x, y, by simp, by simp, e.symm⟩
  | x :: xs, y :: ys, i + 1, d, e => by
    obtain ⟨x', y', h1, h2, h3⟩ := zipD_get xs ys i d (by simpa [zipD] using e)
    exact ⟨x', y', by simpa using h1, by simpa using h2, h3⟩
theorem zipD_length : ∀ (xs ys : List D), (zipD xs ys).length = min xs.length ys.length
  | [], ys => by simp [zipD]
  | _ :: _, [] => by simp [zipD]
  | x :: xs, y :: ys => by rw [zipD, List.length_cons, zipD_length]; simp
theorem rep_pair {w : Wd} (g : Good w) {T : Addr} (hT : w.H T = none) {x y : D} {u v : V} (hx : Rep Γ w.R w.F x u) (hy : Rep Γ w.R w.F y v) : Rep Γ w.R (upd w.F T (.tup [u, v])) (.tup [x, y]) (.ref T) := by
  rw [Rep]
  refine ⟨T, _, rfl, upd_same, ?_⟩
  rw [RepL]
  refine ⟨_, _, rfl, rep_up (updF_up (g.none_of hT).1) hx, ?_⟩
  rw [RepL]
  exact ⟨_, _, rfl, rep_up (updF_up (g.none_of hT).1) hy, by rw [RepL]⟩
theorem walk_zip {K : PySem.W.Frag} {ds es : List D} {a b : Addr} {ys zs : List V} : Walk Γ (Itz K a b) (zipD ds es) (fun w => SqL K w.F a ys ∧ RepL Γ w.R w.F ds ys ∧ SqL K w.F b zs ∧ RepL Γ w.R w.F es zs) where
  up := fun w w' h x => ⟨SqL.up x.f h.1, repL_up x h.2.1, SqL.up x.f h.2.2.1, repL_up x h.2.2.2⟩
  go := fun i w d h g e => by
    obtain ⟨x, y, e1, e2, e3⟩ := zipD_get _ _ _ _ e
    obtain ⟨u, h1, h2⟩ := h.2.1.get e1
    obtain ⟨v, h3, h4⟩ := h.2.2.2.get e2
    refine ⟨⟨ys, zs, u, v, SqL.up g.sub h.1, SqL.up g.sub h.2.2.1, h1, h3⟩, fun x0 H' ⟨T, x', y', e4, hT, e5, e6, e7⟩ => ?_⟩
    have z := e6 ys (SqL.up g.sub h.1)
    rw [h1] at z; cases z
    have z := e7 zs (SqL.up g.sub h.2.2.1)
    rw [h3] at z; cases z
    subst e4 e5 e3
    exact ⟨{ w with F := upd w.F T (.tup [u, v]), H := upd w.H T (.tup [u, v]) }, rfl, .newF g hT, rfl, rfl, rfl, .newF g hT, rep_pair g hT h2 h4⟩
  stop := fun w h g => ⟨ys, zs, SqL.up g.sub h.1, SqL.up g.sub h.2.2.1, by rw [zipD_length, h.2.1.length, h.2.2.2.length]; omega⟩
theorem walk_zipT {K : PySem.W.Frag} {ds es : List D} {a b : Addr} {ys zs : List V} : Walk Γ (RZ.ItzT K a b) (zipD ds es) (fun w => SqT K w.F a ys ∧ RepL Γ w.R w.F ds ys ∧ SqT K w.F b zs ∧ RepL Γ w.R w.F es zs) where
  up := fun w w' h x => ⟨SqT.up x.f h.1, repL_up x h.2.1, SqT.up x.f h.2.2.1, repL_up x h.2.2.2⟩
  go := fun i w d h g e => by
    obtain ⟨x, y, e1, e2, e3⟩ := zipD_get _ _ _ _ e
    obtain ⟨u, h1, h2⟩ := h.2.1.get e1
    obtain ⟨v, h3, h4⟩ := h.2.2.2.get e2
    refine ⟨⟨ys, zs, u, v, SqT.up g.sub h.1, SqT.up g.sub h.2.2.1, h1, h3⟩, fun x0 H' ⟨T, x', y', e4, hT, e5, e6, e7⟩ => ?_⟩
    have z := e6 ys (SqT.up g.sub h.1)
    rw [h1] at z; cases z
    have z := e7 zs (SqT.up g.sub h.2.2.1)
    rw [h3] at z; cases z
    subst e4 e5 e3
    exact ⟨{ w with F := upd w.F T (.tup [u, v]), H := upd w.H T (.tup [u, v]) }, rfl, .newF g hT, rfl, rfl, rfl, .newF g hT, rep_pair g hT h2 h4⟩
  stop := fun w h g => ⟨ys, zs, SqT.up g.sub h.1, SqT.up g.sub h.2.2.1, by rw [zipD_length, h.2.1.length, h.2.2.2.length]; omega⟩
end
section
variable {X : Cx} {Γ : Gm} {W : WX} {tg e : Expr} {c : M Rv} {cs : M (List D)}
theorem cD_ok {Γ : Gm} {W : WX} {c : M Rv} {w : Wd} {σ : L2.St} {ρ S ρ1 S1 : List Sl} {d : D} {t : Bool} (q : cD c ρ S = .ok d ρ1 S1 t) {Q1 : VK}
    (k : ∀ w' v, Ext w w' → Rel Γ w' ρ1 S1 σ → Rep Γ w'.R w'.F d v → Q1 v w'.H) : CK Γ W w σ Q1 (c ρ S) := by
  refine CKd.of (Qd := fun _ _ _ => True) (by rw [q]; exact fun _ _ _ _ _ _ => True.intro) fun d' ρ' S' t' w' v x e r o q' => ?_
  rw [q] at q'
  cases q'
  exact k w' v x r o
theorem cD_ex {Γ : Gm} {W : WX} {c : M Rv} {w : Wd} {σ : L2.St} {ρ S ρ1 S1 : List Sl} {y : Exn} (q : cD c ρ S = .ex y ρ1 S1) {Q1 : VK}
    (k : ∀ w' cls d, Ext w w' → Rel Γ w' ρ1 S1 σ → XOk Γ w' y cls d → W cls d σ w'.H) : CK Γ W w σ Q1 (c ρ S) :=
  CKd.of (Qd := fun _ _ _ => True) (by rw [q]; exact k) fun d' ρ' S' t' w' v x e r o q' => by rw [q] at q'; cases q'
theorem pmi_its (hK : Γ.K = X.K) (h : PE X e (tM Γ W c)) : PI X tg e (tI Γ W (cIts c)) :=
  ((pi_list h).or ((pi_tup h).or (pi_str h))).imp fun σ H Q ⟨F, E, C, R, ρ, S, rel, ck⟩ => by
    unfold cIts at ck
    cases q : cD c ρ S with
    | bad => rw [q] at ck; exact ck.elim
    | ex y ρ1 S1 =>
      rw [q] at ck
      exact .inl ⟨F, E, C, R, ρ, S, rel, cD_ex q ck⟩
    | ok d ρ1 S1 t =>
      rw [q, Res.bind_ok] at ck
      have seqL : ∀ xs, (d = .lst xs ∨ d = .kl xs) → CKi Γ W ⟨F, E, C, R, H⟩ σ Q (Res.ok xs ρ1 S1 false) → iList X.K (tM Γ W c) σ H Q := fun xs hd ck =>
        ⟨F, E, C, R, ρ, S, rel, cD_ok q fun w' v x r o => by
          have z : ∃ a ys, v = .ref a ∧ SqL Γ.K w'.F a ys ∧ RepL Γ w'.R w'.F xs ys := by
            rcases hd with hd | hd
            · subst hd; rw [Rep] at o; obtain ⟨a, ys, e1, e2, e3⟩ := o; exact ⟨a, ys, e1, SqL.of e2, e3⟩
            · subst hd; rw [Rep] at o; exact o
          obtain ⟨a, ys, e1, e2, e3⟩ := z
          rw [hK] at e2
          exact ⟨a, e1, ⟨ys, SqL.up r.good.sub e2⟩, ck w' _ _ x r ⟨e2, e3⟩ walk_list⟩⟩
      have seqT : ∀ xs, (d = .tup xs ∨ d = .kt xs) → CKi Γ W ⟨F, E, C, R, H⟩ σ Q (Res.ok xs ρ1 S1 false) → iTup X.K (tM Γ W c) σ H Q := fun xs hd ck =>
        ⟨F, E, C, R, ρ, S, rel, cD_ok q fun w' v x r o => by
          have z : ∃ a ys, v = .ref a ∧ SqT Γ.K w'.F a ys ∧ RepL Γ w'.R w'.F xs ys := by
            rcases hd with hd | hd
            · subst hd; rw [Rep] at o; obtain ⟨a, ys, e1, e2, e3⟩ := o; exact ⟨a, ys, e1, SqT.of e2, e3⟩
            · subst hd; rw [Rep] at o; exact o
          obtain ⟨a, ys, e1, e2, e3⟩ := z
          rw [hK] at e2
          exact ⟨a, e1, ⟨ys, SqT.up r.good.sub e2⟩, ck w' _ _ x r ⟨e2, e3⟩ walk_tup⟩⟩
      cases d with
      | lst xs => exact .inl (seqL xs (.inl rfl) ck)
      | kl xs => exact .inl (seqL xs (.inr rfl) ck)
      | tup xs => exact .inr (.inl (seqT xs (.inl rfl) ck))
      | kt xs => exact .inr (.inl (seqT xs (.inr rfl) ck))
      | str z =>
        refine .inr (.inr ⟨F, E, C, R, ρ, S, rel, cD_ok q fun w' v x r o => ?_⟩)
        rw [Rep] at o
        exact ⟨z, o, ck w' _ _ x r True.intro walk_str⟩
      | _ => exact ck.elim
theorem pmi_rng1 {a : Expr} {p pos : Pos} (hg : Gl X "range") (hm : X.mg "range" = none) (ha : PA X [a] (tMl Γ W cs)) (hs : starEach [a] X.env = [(false, eval a X.env)]) : PI X tg (.Call (.Name "range" p) [a] [] pos) (tI Γ W (cRng1 cs)) :=
  (pi_range1 hg hm ha hs).imp fun σ H Q ⟨F, E, C, R, ρ, S, rel, ck⟩ => ⟨F, E, C, R, ρ, S, rel, CKl.bindI ck fun ds ρ1 S1 w1 vs x1 rel1 o1 ck1 => by
    split at ck1
    · rename_i j
      split at ck1
      · rename_i hj
        rw [RepL] at o1
        obtain ⟨v, vs', e1, r1, l1⟩ := o1
        rw [RepL] at l1
        rw [Rep] at r1
        subst e1 l1 r1
        exact ⟨j, rfl, hj.1, hj.2, ck1 w1 _ _ x1 rel1 True.intro walk_range⟩
      · exact ck1.elim
    · exact ck1.elim⟩
theorem pmi_rng2 {a b : Expr} {p pos : Pos} (hg : Gl X "range") (hm : X.mg "range" = none) (ha : PA X [a, b] (tMl Γ W cs)) (hs : starEach [a, b] X.env = [(false, eval a X.env), (false, eval b X.env)]) (hs2 : starEach [b] X.env = [(false, eval b X.env)]) : PI X tg (.Call (.Name "range" p) [a, b] [] pos) (tI Γ W (cRng2 cs)) :=
  (pi_range2 hg hm ha hs hs2).imp fun σ H Q ⟨F, E, C, R, ρ, S, rel, ck⟩ => ⟨F, E, C, R, ρ, S, rel, CKl.bindI ck fun ds ρ1 S1 w1 vs x1 rel1 o1 ck1 => by
    split at ck1
    · rename_i i j
      split at ck1
      · rename_i hj
        rw [RepL] at o1
        obtain ⟨v, vs', e1, r1, l1⟩ := o1
        rw [RepL] at l1
        obtain ⟨v2, vs2, e2, r2, l2⟩ := l1
        rw [RepL] at l2
        rw [Rep] at r1 r2
        subst e1 e2 l2 r1 r2
        exact ⟨i, j, rfl, hj, ck1 w1 _ _ x1 rel1 True.intro walk_range⟩
      · exact ck1.elim
    · exact ck1.elim⟩
theorem pmi_enum {a : Expr} {elts : List Expr} {kk : Nat} {tpos p pos : Pos} (hK : Γ.K = X.K) (hg : Gl X "enumerate") (hm : X.mg "enumerate" = none) (ha : PA X [a] (tMl Γ W cs)) (hs : starEach [a] X.env = [(false, eval a X.env)]) : PI X (.Tuple elts kk tpos) (.Call (.Name "enumerate" p) [a] [] pos) (tI Γ W (cEnum cs)) :=
  (pi_enum hg hm ha hs).imp fun σ H Q ⟨F, E, C, R, ρ, S, rel, ck⟩ => ⟨F, E, C, R, ρ, S, rel, CKl.bindI ck fun ds ρ1 S1 w1 vs x1 rel1 o1 ck1 => by
    have fin : ∀ d xs, ds = [d] → (d = .lst xs ∨ d = .kl xs) → CKi Γ W ⟨F, E, C, R, H⟩ σ Q (Res.ok (enumD 0 xs) ρ1 S1 false) → ∃ a xs, vs = [.ref a] ∧ SqL X.K w1.H a xs ∧ Q (Ite X.K a) w1.H := fun d xs ed hd ck2 => by
      subst ed
      rw [RepL] at o1
      obtain ⟨v, vs', e1, o, l1⟩ := o1
      rw [RepL] at l1
      have z : ∃ a ys, v = .ref a ∧ SqL Γ.K w1.F a ys ∧ RepL Γ w1.R w1.F xs ys := by
        rcases hd with hd | hd
        · subst hd; rw [Rep] at o; obtain ⟨a, ys, e1, e2, e3⟩ := o; exact ⟨a, ys, e1, SqL.of e2, e3⟩
        · subst hd; rw [Rep] at o; exact o
      obtain ⟨a, ys, e2, e3, e4⟩ := z
      rw [hK] at e3
      subst e1 l1 e2
      exact ⟨a, ys, rfl, SqL.up rel1.good.sub e3, ck2 w1 _ _ x1 rel1 ⟨e3, e4⟩ walk_enum⟩
    split at ck1
    · exact fin _ _ rfl (.inl rfl) ck1
    · exact fin _ _ rfl (.inr rfl) ck1
    · exact ck1.elim⟩
theorem pmi_zip {a b : Expr} {elts : List Expr} {kk : Nat} {tpos p pos : Pos} (hK : Γ.K = X.K) (hg : Gl X "zip") (hm : X.mg "zip" = none) (ha : PA X [a, b] (tMl Γ W cs)) (hs : starEach [a, b] X.env = (false, eval a X.env) :: starEach [b] X.env) (hpl : (backTo pos (starEach [b] X.env)).any (·.1) = false) :
    PI X (.Tuple elts kk tpos) (.Call (.Name "zip" p) [a, b] [] pos) (tI Γ W (cZip cs)) :=
  (RZ.pi_zipA hg hm ha hs hpl).imp fun σ H Q ⟨F, E, C, R, ρ, S, rel, ck⟩ => ⟨F, E, C, R, ρ, S, rel, CKl.bindI ck fun ds ρ1 S1 w1 vs x1 rel1 o1 ck1 => by
    have two : ∀ d e, ds = [d, e] → ∃ u v, vs = [u, v] ∧ Rep Γ w1.R w1.F d u ∧ Rep Γ w1.R w1.F e v := fun d e ed => by
      subst ed
      rw [RepL] at o1
      obtain ⟨v, vs', e1, o, l1⟩ := o1
      rw [RepL] at l1
      obtain ⟨v2, vs2, e2, o2, l2⟩ := l1
      rw [RepL] at l2
      subst e1 e2 l2
      exact ⟨_, _, rfl, o, o2⟩
    have tt : ∀ d xs v, (d = .tup xs ∨ d = .kt xs) → Rep Γ w1.R w1.F d v → ∃ a ys, v = .ref a ∧ SqT X.K w1.F a ys ∧ RepL Γ w1.R w1.F xs ys := fun d xs v hd o => by
      rw [← hK]
      rcases hd with hd | hd
      · subst hd; rw [Rep] at o; obtain ⟨a, ys, e1, e2, e3⟩ := o; exact ⟨a, ys, e1, SqT.of e2, e3⟩
      · subst hd; rw [Rep] at o; exact o
    have finT : ∀ d e xs ys, ds = [d, e] → (d = .tup xs ∨ d = .kt xs) → (e = .tup ys ∨ e = .kt ys) → CKi Γ W ⟨F, E, C, R, H⟩ σ Q (Res.ok (zipD xs ys) ρ1 S1 false) →
        ∃ a b xs ys, vs = [.ref a, .ref b] ∧ ((SqL X.K w1.H a xs ∧ SqL X.K w1.H b ys ∧ Q (Itz X.K a b) w1.H) ∨ (SqT X.K w1.H a xs ∧ SqT X.K w1.H b ys ∧ Q (RZ.ItzT X.K a b) w1.H)) := fun d e xs ys ed hd he ck2 => by
      obtain ⟨u, v, ev, o, o2⟩ := two d e ed
      obtain ⟨a, zs, e1, e2, e3⟩ := tt d xs u hd o
      obtain ⟨b, zs2, e4, e5, e6⟩ := tt e ys v he o2
      subst ev e1 e4
      exact ⟨a, b, zs, zs2, rfl, .inr ⟨SqT.up rel1.good.sub e2, SqT.up rel1.good.sub e5, ck2 w1 _ _ x1 rel1 ⟨e2, e3, e5, e6⟩ walk_zipT⟩⟩
    split at ck1
    · rename_i xs ys
      obtain ⟨u, v, ev, o, o2⟩ := two _ _ rfl
      rw [Rep] at o o2
      obtain ⟨a, zs, e1, e2, e3⟩ := o
      obtain ⟨b, zs2, e4, e5, e6⟩ := o2
      subst ev e1 e4
      exact ⟨a, b, zs, zs2, rfl, .inl ⟨SqL.of (rel1.good.sub _ _ e2), SqL.of (rel1.good.sub _ _ e5), ck1 w1 _ _ x1 rel1 ⟨SqL.of e2, e3, SqL.of e5, e6⟩ walk_zip⟩⟩
    · exact finT _ _ _ _ rfl (.inl rfl) (.inl rfl) ck1
    · exact finT _ _ _ _ rfl (.inl rfl) (.inr rfl) ck1
    · exact finT _ _ _ _ rfl (.inr rfl) (.inl rfl) ck1
    · exact ck1.elim⟩
end

/-! ### for -/
def forM (g : Tgt) (b : M Fl) : List D → M Fl
  | [] => fun ρ S => .ok .nx ρ S false
  | d :: ds => fun ρ S => match bindT g d ρ with
    | none => .bad
    | some ρ1 => match b ρ1 S with
      | .ok .nx ρ2 S2 _ => forM g b ds ρ2 S2
      | .ok .ct ρ2 S2 _ => forM g b ds ρ2 S2
      | .ok .bk ρ2 S2 _ => .ok .nx ρ2 S2 false
      | .ok (.rt r) ρ2 S2 _ => .ok (.rt r) ρ2 S2 false
      | .ex x ρ2 S2 => .ex x ρ2 S2
      | .bad => .bad
def cFor (ci : M (List D)) (g : Tgt) (b : M Fl) : M Fl := fun ρ S => match ci ρ S with
  | .ok ds ρ S _ => forM g b ds ρ S
  | .ex x ρ S => .ex x ρ S
  | .bad => .bad
section
variable {X : Cx} {Γ : Gm} {W : WX} {P : List Nat} {tg iter : Expr} {body : List Stmt} {ci : M (List D)} {b : M Fl} {g : Tgt} {t : TG} {pos : Pos}
theorem for_core (ht : TgOk Γ t g) (hP : ∀ j ∈ P, j ∉ g.slots) {D : Ends} {σ : L2.St} {H : Hp} (h : tS Γ W P (cFor ci g b) D σ H) : tFor (tI Γ W ci) t (tS Γ W P b) D σ H := by
  obtain ⟨F, E, C, R, ρ, S, rel, sk⟩ := h
  refine ⟨F, E, C, R, ρ, S, rel, ?_⟩
  unfold cFor at sk
  cases q : ci ρ S with
  | bad => rw [q] at sk; exact sk
  | ex y ρ1 S1 => rw [q] at sk; exact fun w2 cls d x2 R2 o2 => sk w2 σ cls d x2 .refl R2 o2
  | ok ds ρ1 S1 _ =>
    rw [q] at sk
    intro w1 J I x1 rel1 i1 walk
    refine ⟨fun i m σ' H' => m = ds.length - i ∧ i ≤ ds.length ∧ ∃ w ρ S, w.H = H' ∧ Ext ⟨F, E, C, R, H⟩ w ∧ Pin P σ σ' ∧ Rel Γ w ρ S σ' ∧ I w ∧ SK Γ W P ⟨F, E, C, R, H⟩ σ D (forM g b (ds.drop i) ρ S),
      ⟨ds.length, by simp, Nat.zero_le _, w1, ρ1, S1, rfl, x1, .refl, rel1, i1, sk⟩, ?_⟩
    rintro i m σ2 H2 ⟨rfl, hi, w2, ρ2, S2, eH, x2, p2, rel2, i2, sk2⟩
    subst eH
    by_cases hlt : i < ds.length
    · have ed : ds[i]? = some ds[i] := by simp [hlt]
      rw [List.drop_eq_getElem_cons hlt] at sk2
      obtain ⟨go, turn⟩ := walk.go i w2 _ i2 rel2.good ed
      refine .inr ⟨go, fun σ' H' => ∃ w ρ S, w.H = H' ∧ Ext ⟨F, E, C, R, H⟩ w ∧ Pin P σ σ' ∧ Rel Γ w ρ S σ' ∧ I w ∧ SK Γ W P ⟨F, E, C, R, H⟩ σ D (forM g b (ds.drop (i + 1)) ρ S), fun σ' H' z => ⟨ds.length - (i + 1), by omega, rfl, hlt, z⟩, fun x H' y => ?_⟩
      obtain ⟨w3, eH3, x3, eE, eC, eR, g3, r3⟩ := turn x H' y
      subst eH3
      have rel3 := rel2.move x3.gr g3 eE eC eR
      simp only [forM] at sk2
      cases q2 : bindT g ds[i] ρ2 with
      | none => simp only [q2] at sk2; exact sk2.elim
      | some ρ3 =>
        simp only [q2] at sk2
        refine ht w3 ρ2 S2 σ2 _ x ρ3 _ rel3 r3 q2 fun w4 σ4 eH4 x4 eF4 eR4 rel4 same len => ?_
        have p4 : Pin P σ σ4 := p2.trans fun j hj => same j (hP j hj)
        have x04 := (x2.trans x3).trans x4
        have i4 := walk.up _ _ (walk.up _ _ i2 x3.gr) x4.gr
        refine ⟨w4.F, w4.E, w4.C, w4.R, ρ3, S2, rel4, ?_⟩
        cases q3 : b ρ3 S2 with
        | bad => simp only [q3] at sk2; exact sk2
        | ex y ρ5 S5 =>
          simp only [q3] at sk2
          exact fun w5 σ5 cls d x5 p5 r5 o5 => sk2 w5 σ5 cls d (x04.trans x5) (p4.trans p5) r5 o5
        | ok f ρ5 S5 t5 =>
          simp only [q3] at sk2
          cases f with
          | nx => exact fun w5 σ5 x5 p5 rel5 => ⟨w5, ρ5, S5, rfl, x04.trans x5, p4.trans p5, rel5, walk.up _ _ i4 x5.gr, sk2⟩
          | ct => exact fun w5 σ5 x5 p5 rel5 => ⟨w5, ρ5, S5, rfl, x04.trans x5, p4.trans p5, rel5, walk.up _ _ i4 x5.gr, sk2⟩
          | bk => exact fun w5 σ5 x5 p5 r5 => sk2 w5 σ5 (x04.trans x5) (p4.trans p5) r5
          | rt r => exact fun w5 σ5 v x5 p5 r5 o5 => sk2 w5 σ5 v (x04.trans x5) (p4.trans p5) r5 (o5.base x04)
    · have e : i = ds.length := by omega
      subst e
      refine .inl ⟨walk.stop w2 i2 rel2.good, ?_⟩
      rw [List.drop_length] at sk2
      exact sk2 w2 σ2 x2 p2 rel2
theorem pms_for (hp : PassesOwn (model X.prog X.w) X.A X.env X.xe) (hc : X.calm = true) (hi : PI X tg iter (tI Γ W ci)) (hg : PG X tg t) (ht : TgOk Γ t g) (hP : ∀ j ∈ P, j ∉ g.slots) (hb : PSs X body (tS Γ W P b)) (hs : ∀ x, foldedSetIterable iter X.env x = pure x) :
    PS X (.For tg iter body [] pos) (tS Γ W P (cFor ci g b)) := (ps_for hp hc hi hg hb hs).imp fun _ _ _ h => for_core ht hP h

/-! ### while -/
def whileM (t : M Bool) (b : M Fl) : Nat → M Fl
  | 0 => fun _ _ => .bad
  | n + 1 => fun ρ S => match t ρ S with
    | .ok true ρ1 S1 _ => (match b ρ1 S1 with
      | .ok .nx ρ2 S2 _ => whileM t b n ρ2 S2
      | .ok .ct ρ2 S2 _ => whileM t b n ρ2 S2
      | .ok .bk ρ2 S2 _ => .ok .nx ρ2 S2 false
      | .ok (.rt r) ρ2 S2 _ => .ok (.rt r) ρ2 S2 false
      | .ex x ρ2 S2 => .ex x ρ2 S2
      | .bad => .bad)
    | .ok false ρ1 S1 _ => .ok .nx ρ1 S1 false
    | .ex x ρ1 S1 => .ex x ρ1 S1
    | .bad => .bad
theorem while_core {c : M Bool} {n : Nat} {D : Ends} {σ : L2.St} {H : Hp} (h : tS Γ W P (whileM c b n) D σ H) : tWhile (tMb Γ W c) (tS Γ W P b) D σ H := by
  obtain ⟨F, E, C, R, ρ, S, rel, sk⟩ := h
  refine ⟨fun m σ' H' => ∃ w ρ S, w.H = H' ∧ Ext ⟨F, E, C, R, H⟩ w ∧ Pin P σ σ' ∧ Rel Γ w ρ S σ' ∧ SK Γ W P ⟨F, E, C, R, H⟩ σ D (whileM c b m ρ S), ⟨n, _, ρ, S, rfl, .refl _, .refl, rel, sk⟩, ?_⟩
  rintro m σ2 H2 ⟨w2, ρ2, S2, eH, x2, p2, rel2, sk2⟩
  subst eH
  cases m with
  | zero => exact sk2.elim
  | succ m =>
    simp only [whileM] at sk2
    refine ⟨w2.F, w2.E, w2.C, w2.R, ρ2, S2, rel2, ?_⟩
    cases q : c ρ2 S2 with
    | bad => simp only [q] at sk2; exact sk2
    | ex y ρ3 S3 => simp only [q] at sk2; exact fun w3 cls d x3 R3 o3 => sk2 w3 σ2 cls d (x2.trans x3) p2 R3 o3
    | ok k ρ3 S3 t3 =>
      intro w3 x3 _ rel3
      have x03 := x2.trans x3
      cases k with
      | false =>
        simp only [q] at sk2
        rw [if_neg Bool.false_ne_true]
        exact sk2 w3 σ2 x03 p2 rel3
      | true =>
        simp only [q] at sk2
        rw [if_pos rfl]
        refine ⟨fun σ' H' => ∃ w ρ S, w.H = H' ∧ Ext ⟨F, E, C, R, H⟩ w ∧ Pin P σ σ' ∧ Rel Γ w ρ S σ' ∧ SK Γ W P ⟨F, E, C, R, H⟩ σ D (whileM c b m ρ S), fun σ' H' z => ⟨m, Nat.lt_succ_self m, z⟩, w3.F, w3.E, w3.C, w3.R, ρ3, S3, rel3, ?_⟩
        cases q3 : b ρ3 S3 with
        | bad => simp only [q3] at sk2; exact sk2
        | ex y ρ5 S5 =>
          simp only [q3] at sk2
          exact fun w5 σ5 cls d x5 p5 r5 o5 => sk2 w5 σ5 cls d (x03.trans x5) (p2.trans p5) r5 o5
        | ok f ρ5 S5 t5 =>
          simp only [q3] at sk2
          cases f with
          | nx => exact fun w5 σ5 x5 p5 rel5 => ⟨w5, ρ5, S5, rfl, x03.trans x5, p2.trans p5, rel5, sk2⟩
          | ct => exact fun w5 σ5 x5 p5 rel5 => ⟨w5, ρ5, S5, rfl, x03.trans x5, p2.trans p5, rel5, sk2⟩
          | bk => exact fun w5 σ5 x5 p5 r5 => sk2 w5 σ5 (x03.trans x5) (p2.trans p5) r5
          | rt r => exact fun w5 σ5 v x5 p5 r5 o5 => sk2 w5 σ5 v (x03.trans x5) (p2.trans p5) r5 (o5.base x03)
theorem pms_while {c : Expr} {tc : M Bool} (n : Nat) (hp : PassesOwn (model X.prog X.w) X.A X.env X.xe) (hc : PT X c (tMb Γ W tc)) (hb : PSs X body (tS Γ W P b)) : PS X (.While c body [] pos) (tS Γ W P (whileM tc b n)) :=
  (ps_while hp hc hb).imp fun _ _ _ h => while_core h
end
end DV

/-! DVj: list comprehensions; things changed in their place; a def by its body. -/
namespace DV
open PySem PySem.Spec PyProof.Rows L2

def wipeS (ρ : List Sl) : List Nat → List Sl
  | [] => ρ
  | v :: vs => (wipeS ρ vs).set v .emp
section
variable {Γ : Gm} {W : WX} {w w0 w1 : Wd} {σ : L2.St} {ρ S : List Sl}
theorem Rel.clear (i : Nat) (h : Rel Γ w ρ S σ) : ∃ w2, w2.H = w.H ∧ Ext w w2 ∧ Rel Γ w2 (ρ.set i .emp) S (σ.set i none) ∧ w2.F = w.F ∧ w2.R = w.R := by
  by_cases hi : i < ρ.length
  · obtain ⟨s, hs⟩ : ∃ s, ρ[i]? = some s := ⟨ρ[i], by simp [hi]⟩
    obtain ⟨o2, A, B, b2, h1, h2, h3, h4⟩ := h.own.env_at hs
    have g := h.good
    have eAd : w.ad = A.map (·.1) ++ b2.map (·.1) ++ (B ++ w.C).map (·.1) := by show (w.E ++ w.C).map _ = _; rw [h2]; simp
    have nd := g.nd
    rw [eAd] at nd
    obtain ⟨q1, q2, q3⟩ := List.nodup_append.mp nd
    obtain ⟨q4, q5, q6⟩ := List.nodup_append.mp q1
    have mem : ∀ p, p ∈ A ++ B ++ w.C → p ∈ w.E ++ w.C := fun p hp => by
      rw [h2]
      simp only [List.mem_append] at hp ⊢
      rcases hp with (z | z) | z <;> simp [z]
    refine ⟨{ w with E := A ++ B }, rfl, ⟨.refl, fun _ _ h _ _ => h, fun _ ps h => ⟨#[], by simpa using h⟩, fun a z => ?_, fun _ _ h => .inl h, fun _ o h => ⟨o, h⟩⟩, ⟨⟨g.sub, fun p hp => g.cell p (mem p hp), ?_⟩, ?_⟩, rfl, rfl⟩
    · obtain ⟨p, hp, rfl⟩ := List.mem_map.mp z
      exact .inl (List.mem_map_of_mem (mem p hp))
    · show ((A ++ B ++ w.C).map (·.1)).Nodup
      rw [List.append_assoc, List.map_append]
      exact List.nodup_append.mpr ⟨q4, q2, fun a ha c hc => q3 a (List.mem_append_left _ ha) c hc⟩
    · have z := h4 w.F (fun _ _ h => h) .emp none [] rfl
      simpa using z
  · have e1 : ρ.set i .emp = ρ := List.set_eq_of_length_le (by omega)
    have e2 : σ.set i none = σ := List.set_eq_of_length_le (by rw [← h.own.1.length]; omega)
    rw [e1, e2]
    exact ⟨w, rfl, .refl w, h, rfl, rfl⟩
theorem Rel.wipe (h : Rel Γ w ρ S σ) : ∀ vs : List Nat, ∃ w2, w2.H = w.H ∧ Ext w w2 ∧ Rel Γ w2 (wipeS ρ vs) S (L2.wipe σ vs) ∧ w2.F = w.F ∧ w2.R = w.R
  | [] => ⟨w, rfl, .refl w, h, rfl, rfl⟩
  | v :: vs => by
    obtain ⟨w2, a, b, c, d, e⟩ := h.wipe vs
    obtain ⟨w3, a', b', c', d', e'⟩ := c.clear v
    exact ⟨w3, a'.trans a, b.trans b', c', d'.trans d, e'.trans e⟩
theorem wipeS_length (ρ : List Sl) : ∀ vs, (wipeS ρ vs).length = ρ.length
  | [] => rfl
  | v :: vs => by rw [wipeS, List.length_set, wipeS_length ρ vs]
theorem wipeS_emp (ρ : List Sl) : ∀ (vs : List Nat) (v : Nat), v ∈ vs → ∀ s, (wipeS ρ vs)[v]? = some s → s = .emp
  | v :: vs, u, hu, s, e => by
    rw [wipeS] at e
    by_cases z : v = u
    · subst z
      have hl : v < (wipeS ρ vs).length := by
        have := (List.getElem?_eq_some_iff.mp e).1
        rwa [List.length_set] at this
      rw [List.getElem?_set_self hl] at e
      cases e; rfl
    · rw [List.getElem?_set_ne z] at e
      rcases List.mem_cons.mp hu with y | y
      · exact absurd y.symm z
      · exact wipeS_emp ρ vs u y s e
theorem wipe_get {σ : L2.St} : ∀ {vs : List Nat} {j : Nat}, j ∉ vs → (L2.wipe σ vs)[j]? = σ[j]?
  | [], j, h => rfl
  | v :: vs, j, h => by
    simp only [List.mem_cons, not_or] at h
    unfold L2.wipe
    rw [List.getElem?_set_ne (Ne.symm h.1), wipe_get h.2]
theorem wipe_at {σ : L2.St} : ∀ {vs : List Nat} {j : Nat}, j ∈ vs → j < σ.length → (L2.wipe σ vs)[j]? = some none
  | v :: vs, j, h, hl => by
    unfold L2.wipe
    by_cases z : v = j
    · subst z
      rw [List.getElem?_set_self (by rw [wipe_length]; exact hl)]
    · rw [List.getElem?_set_ne z]
      rcases List.mem_cons.mp h with y | y
      · exact absurd y.symm z
      · exact wipe_at y hl
theorem wipe_eq {σ σ' : L2.St} {vs : List Nat} (hl : σ'.length = σ.length) (h : ∀ j, j ∉ vs → σ'[j]? = σ[j]?) : L2.wipe σ' vs = L2.wipe σ vs := by
  apply List.ext_getElem?
  intro j
  by_cases z : j ∈ vs
  · by_cases hj : j < σ.length
    · rw [wipe_at z hj, wipe_at z (by rw [hl]; exact hj)]
    · rw [List.getElem?_eq_none (by rw [wipe_length]; omega), List.getElem?_eq_none (by rw [wipe_length]; omega)]
  · rw [wipe_get z, wipe_get z, h j z]
/-- of a slot that holds nothing nothing is asked -/
theorem OwnE.unwipe {R : List Addr} {F : Hp} : ∀ {ρ : List Sl} {σ σ' : L2.St} {C : Cells}, OwnE Γ R F ρ σ' C → σ.length = σ'.length → (∀ (i : Nat) (s : Sl), ρ[i]? = some s → s ≠ .emp → σ[i]? = σ'[i]?) → OwnE Γ R F ρ σ C
  | [], σ, σ', C, h, hl, k => by
    obtain ⟨rfl, rfl⟩ := h
    exact ⟨List.length_eq_zero_iff.mp hl, rfl⟩
  | s :: ρ, σ, σ', C, h, hl, k => by
    obtain ⟨o, r, c1, c2, e, q, l, e2⟩ := h
    subst e e2
    cases σ with
    | nil => cases hl
    | cons o1 σ =>
      refine ⟨o1, σ, c1, c2, rfl, ?_, l.unwipe (by simpa using hl) (fun i s hs n => by simpa using k (i + 1) s (by simpa using hs) n), rfl⟩
      by_cases z : s = .emp
      · subst z; exact q
      · have := k 0 s rfl z
        simp at this
        subst this
        exact q
theorem Rel.unwipe {vs : List Nat} (h : Rel Γ w (wipeS ρ vs) S (L2.wipe σ vs)) : Rel Γ w (wipeS ρ vs) S σ :=
  ⟨h.good, h.own.1.unwipe (by rw [wipe_length]) (fun i s hs n => by
    by_cases z : i ∈ vs
    · exact absurd (wipeS_emp ρ vs i z s hs) n
    · rw [wipe_get z]), h.own.2⟩
/-- an object that nobody else knows stands at D -/
structure Hid (D : Addr) (o : HO) (w : Wd) : Prop where
  h : w.H D = some o
  f : w.F D = none
  n : D ∉ w.ad
theorem Hid.up {D : Addr} {o : HO} (h : Hid D o w) (nt : ∀ ps, o ≠ .tbl ps) (x : Ext w w1) : Hid D o w1 := by
  refine ⟨x.keep _ _ h.h nt h.n, ?_, fun z => ?_⟩
  · cases q : w1.F D with
    | none => rfl
    | some u =>
      rcases x.fnew _ _ q with z | z | z
      · rw [h.f] at z; cases z
      · rw [h.h] at z; cases z
      · exact absurd z h.n
  · rcases x.cnew _ z with y | y
    · exact h.n y
    · rw [h.h] at y; cases y
theorem Hid.put {D : Addr} {o o' : HO} (h : Hid D o w) (x : Ext w0 w) (n0 : w0.H D = none) (r : Rel Γ w ρ S σ) : Ext w0 { w with H := upd w.H D o' } ∧ Rel Γ { w with H := upd w.H D o' } ρ S σ ∧ Hid D o' { w with H := upd w.H D o' } := by
  have ne : ∀ {a : Addr} {u : HO}, w0.H a = some u → a ≠ D := fun {a u} e z => by subst z; rw [n0] at e; cases e
  have g := r.good
  refine ⟨⟨x.gr, fun a u e n ha => ?_, fun a ps e => ?_, x.cnew, x.fnew, fun a u e => ?_⟩, ⟨⟨fun a u e => ?_, fun p hp => ⟨?_, (g.cell p hp).2⟩, g.nd⟩, r.own⟩, upd_same, h.f, h.n⟩
  · show upd w.H D o' a = some u
    rw [upd_ne (ne e)]
    exact x.keep a u e n ha
  · obtain ⟨m, q⟩ := x.tab a ps e
    exact ⟨m, by show upd w.H D o' a = _; rw [upd_ne (ne e)]; exact q⟩
  · obtain ⟨u', q⟩ := x.live a u e
    exact ⟨u', by show upd w.H D o' a = _; rw [upd_ne (ne e)]; exact q⟩
  · show upd w.H D o' a = some u
    rw [upd_ne]
    · exact g.sub a u e
    · intro z; subst z; rw [h.f] at e; cases e
  · show upd w.H D o' p.1 = some p.2
    rw [upd_ne]
    · exact (g.cell p hp).1
    · intro z; exact h.n (z ▸ List.mem_map_of_mem hp)
end

/-! ### [elt for target in iter if test] -/
abbrev W0 : WX := fun _ _ _ _ => False
def compM (vs : List Nat) (g : Tgt) (t : M Bool) (c : M Rv) : List D → List D → M (List D)
  | [], acc => fun ρ S => .ok acc ρ S false
  | d :: ds, acc => fun ρ S => match bindT g d ρ with
    | none => .bad
    | some ρ1 => match t ρ1 S with
      | .ok true ρ2 S2 _ => (match cD c ρ2 S2 with
        | .ok d' ρ3 S3 _ => if acc.length < sizeLine then compM vs g t c ds (acc ++ [d']) (wipeS ρ3 vs) S3 else .bad
        | _ => .bad)
      | .ok false ρ2 S2 _ => compM vs g t c ds acc (wipeS ρ2 vs) S2
      | _ => .bad
def cLc (ci : M (List D)) (vs : List Nat) (g : Tgt) (t : M Bool) (c : M Rv) : M Rv := fun ρ S => match ci ρ S with
  | .ok ds ρ1 S1 _ => (match compM vs g t c ds [] (wipeS ρ1 vs) S1 with
    | .ok acc ρ2 S2 _ => .ok (.fr (.lst acc)) ρ2 S2 true
    | _ => .bad)
  | .ex x ρ1 S1 => .ex x ρ1 S1
  | .bad => .bad
def cYes : M Bool := fun ρ S => .ok true ρ S false
section
variable {X : Cx} {Γ : Gm} {W : WX} {P : List Nat} {elt tg iter : Expr} {ci : M (List D)} {vs : List Nat} {g : Tgt} {tt : M Bool} {c : M Rv} {t : TG} {pos : Pos}
theorem lc_core' (ht : TgOk Γ t g) (hv : ∀ j ∈ g.slots, j ∈ vs) {σ : L2.St} {H : Hp} {Q : VK} (h : tM Γ W (cLc ci vs g tt c) σ H Q) : tLc (tI Γ W ci) t (tMb Γ W0 tt) (tM Γ W0 c) vs σ H Q := by
  obtain ⟨F, E, C, R, ρ, S, rel, ck⟩ := h
  refine ⟨F, E, C, R, ρ, S, rel, ?_⟩
  unfold cLc at ck
  cases q : ci ρ S with
  | bad => rw [q] at ck; exact ck
  | ex y ρ1 S1 => rw [q] at ck; exact ck
  | ok ds ρ1 S1 _ =>
    simp only [q] at ck
    intro w1 J I x1 rel1 i1 walk Dd hD
    have n0 : H Dd = none := x1.none_of hD
    obtain ⟨w2, eH2, x2, rel2, _, _⟩ := rel1.wipe vs
    refine ⟨fun i m H' => m = ds.length - i ∧ i ≤ ds.length ∧ ∃ w ρ S accD acc, w.H = H' ∧ Ext ⟨F, E, C, R, H⟩ w ∧ Rel Γ w (wipeS ρ vs) S (L2.wipe σ vs) ∧ I w ∧ Hid Dd (.lst acc) w ∧ RepL Γ w.R w.F accD acc ∧
        CK Γ W ⟨F, E, C, R, H⟩ σ Q (match compM vs g tt c (ds.drop i) accD (wipeS ρ vs) S with | .ok acc ρ2 S2 _ => .ok (.fr (.lst acc)) ρ2 S2 true | _ => .bad),
      ⟨ds.length, by simp, Nat.zero_le _, ?_⟩, ?_⟩
    · have hD2 : w2.H Dd = none := by rw [eH2]; exact hD
      obtain ⟨f1, f2⟩ := rel2.good.none_of hD2
      refine ⟨{ w2 with H := upd w2.H Dd (.lst []) }, ρ1, S1, [], [], by rw [eH2], (x1.trans x2).trans (.new rel2.good hD2), rel2.move .refl (.new rel2.good hD2) rfl rfl rfl, ?_, ⟨upd_same, f1, f2⟩, by rw [RepL], ck⟩
      exact walk.up _ _ (walk.up _ _ i1 x2.gr) .refl
    · rintro i m H2 ⟨rfl, hi, w3, ρ3, S3, accD, acc, eH, x3, rel3, i3, hid, racc, ck3⟩
      subst eH
      by_cases hlt : i < ds.length
      · have ed : ds[i]? = some ds[i] := by simp [hlt]
        rw [List.drop_eq_getElem_cons hlt] at ck3
        obtain ⟨go, turn⟩ := walk.go i w3 _ i3 rel3.good ed
        refine .inr ⟨go, fun H' => ∃ w ρ S accD acc, w.H = H' ∧ Ext ⟨F, E, C, R, H⟩ w ∧ Rel Γ w (wipeS ρ vs) S (L2.wipe σ vs) ∧ I w ∧ Hid Dd (.lst acc) w ∧ RepL Γ w.R w.F accD acc ∧
          CK Γ W ⟨F, E, C, R, H⟩ σ Q (match compM vs g tt c (ds.drop (i + 1)) accD (wipeS ρ vs) S with | .ok acc ρ2 S2 _ => .ok (.fr (.lst acc)) ρ2 S2 true | _ => .bad),
          fun H' z => ⟨ds.length - (i + 1), by omega, rfl, hlt, z⟩, fun x H' y => ?_⟩
        obtain ⟨w4, eH4, x4, eE, eC, eR, g4, r4⟩ := turn x H' y
        subst eH4
        have rel4 := rel3.move x4.gr g4 eE eC eR
        simp only [compM] at ck3
        cases q2 : bindT g ds[i] (wipeS ρ3 vs) with
        | none => simp only [q2] at ck3; exact ck3.elim
        | some ρ5 =>
          simp only [q2] at ck3
          refine ht w4 _ S3 _ _ x ρ5 _ rel4 r4 q2 fun w5 σ5 eH5 x5 eF5 eR5 rel5 same len => ⟨?_, ?_⟩
          · rw [wipe_eq (σ := L2.wipe σ vs) len fun j hj => same j fun z => hj (hv j z)]
            exact wipe_eq (by rw [wipe_length]) fun j hj => wipe_get hj
          · have ew : L2.wipe σ5 vs = L2.wipe σ vs := by
              rw [wipe_eq (σ := L2.wipe σ vs) len fun j hj => same j fun z => hj (hv j z)]
              exact wipe_eq (by rw [wipe_length]) fun j hj => wipe_get hj
            have x05 := (x3.trans x4).trans x5
            have i5 := walk.up _ _ (walk.up _ _ i3 x4.gr) x5.gr
            have hid5 := (hid.up (fun _ z => nomatch z) x4).up (fun _ z => nomatch z) x5
            have racc5 := repL_up x5.gr (repL_up x4.gr racc)
            refine ⟨w5.F, w5.E, w5.C, w5.R, ρ5, S3, rel5, ?_⟩
            cases q3 : tt ρ5 S3 with
            | bad => simp only [q3] at ck3; exact ck3
            | ex y ρ6 S6 => simp only [q3] at ck3; exact ck3.elim
            | ok k ρ6 S6 t6 =>
              intro w6 x6 _ rel6
              have x06 := x05.trans x6
              have i6 := walk.up _ _ i5 x6.gr
              have hid6 := hid5.up (fun _ z => nomatch z) x6
              have racc6 := repL_up x6.gr racc5
              cases k with
              | false =>
                simp only [q3] at ck3
                rw [if_neg Bool.false_ne_true]
                obtain ⟨w7, eH7, x7, rel7, _, _⟩ := rel6.wipe vs
                rw [ew] at rel7
                exact ⟨w7, ρ6, S6, accD, acc, eH7, x06.trans x7, rel7, walk.up _ _ i6 x7.gr, hid6.up (fun _ z => nomatch z) x7, repL_up x7.gr racc6, ck3⟩
              | true =>
                simp only [q3] at ck3
                rw [if_pos rfl]
                refine ⟨w6.F, w6.E, w6.C, w6.R, ρ6, S6, rel6, ?_⟩
                cases q4 : cD c ρ6 S6 with
                | bad => simp only [q4] at ck3; exact ck3.elim
                | ex y ρ7 S7 => simp only [q4] at ck3; exact ck3.elim
                | ok d7 ρ7 S7 t7 =>
                  simp only [q4] at ck3
                  refine cD_ok q4 fun w7 v x7 rel7 r7 => ?_
                  have hid7 := hid6.up (fun _ z => nomatch z) x7
                  have racc7 := repL_up x7.gr racc6
                  by_cases hl : accD.length < sizeLine
                  · simp only [if_pos hl] at ck3
                    refine ⟨acc, hid7.h, by rw [← racc7.length]; exact hl, ?_⟩
                    obtain ⟨x8, rel8, hid8⟩ := hid7.put (o' := .lst (acc ++ [v])) (x06.trans x7) n0 rel7
                    obtain ⟨w9, eH9, x9, rel9, _, _⟩ := rel8.wipe vs
                    rw [ew] at rel9
                    exact ⟨w9, ρ7, S7, accD ++ [d7], acc ++ [v], eH9, x8.trans x9, rel9, walk.up w7 w9 (walk.up _ _ i6 x7.gr) x9.gr, hid8.up (fun _ z => nomatch z) x9,
                      (racc7.app (ys := [d7]) (ys' := [v]) (by rw [RepL]; exact ⟨v, [], rfl, r7, by rw [RepL]⟩)).up x9.gr, ck3⟩
                  · simp only [if_neg hl] at ck3
                    exact ck3.elim
      · have e : i = ds.length := by omega
        subst e
        refine .inl ⟨walk.stop w3 i3 rel3.good, ?_⟩
        rw [List.drop_length] at ck3
        simp only [compM] at ck3
        refine ck3 w3 (.ref Dd) x3 (fun z => nomatch z) rel3.unwipe ⟨[(Dd, .lst acc)], ?_, ⟨fun p hp => ?_, by simp⟩, fun p hp => ?_⟩
        · rw [Own]; exact ⟨Dd, acc, rfl, racc, rfl⟩
        · have e : p = (Dd, .lst acc) := by simpa using hp
          subst e
          exact ⟨hid.h, hid.f, hid.n, fun _ z => nomatch z⟩
        · have e : p = (Dd, .lst acc) := by simpa using hp
          subst e
          exact .inl n0
theorem pms_yes {X : Cx} : PTs X [] (tMb Γ W0 cYes) := ⟨fun pins s σ H Q I ⟨F, E, C, R, ρ, S, rel, ck⟩ => pts_nil.run pins s σ H Q I (ck ⟨F, E, C, R, H⟩ (.refl _) (fun _ => rfl) rel)⟩
theorem pms_test {X : Cx} {e : Expr} (h : PT X e (tMb Γ W0 tt)) : PTs X [e] (tMb Γ W0 tt) := pts_one h
section
variable {scope : Scope} {own : List (Str × Nat)} {ifs : List Expr}
theorem pm_lc (hc : X.calm = true) (hN : X.N.Nodup) (hi : PI X tg iter (tI Γ W ci)) (ok : BlkOk X.N X.env.scope scope own) (ht : TgOk Γ t g) (hv : ∀ j ∈ g.slots, j ∈ own.map (·.2))
    (hg : ∀ (s : Shared) (H : Hp) (C : Addr) (cl : List (Str × Addr)) (fp : List Addr), PG (X.blk s H scope (compEnvC scope cl C X.env) fp) tg t) (hts : ∀ (s : Shared) (H : Hp) (C : Addr) (cl : List (Str × Addr)) (fp : List Addr), PTs (X.blk s H scope (compEnvC scope cl C X.env) fp) ifs (tMb Γ W0 tt))
    (he : ∀ (s : Shared) (H : Hp) (C : Addr) (cl : List (Str × Addr)) (fp : List Addr), PE (X.blk s H scope (compEnvC scope cl C X.env) fp) elt (tM Γ W0 c)) (hs : ∀ x, foldedSetIterable iter X.env x = pure x) :
    PE X (.ListComp elt [⟨tg, iter, ifs, 0⟩] scope pos) (tM Γ W (cLc ci (own.map (·.2)) g tt c)) :=
  (pe_lc hc hN hi ok hg hts he hs).imp fun _ _ _ h => lc_core' ht hv h
theorem pms_setLc {y : Str} {i : Nat} {own' : Bool} {spos py : Pos} (hc : X.calm = true) (hN : X.N.Nodup) (hy : X.N[i]? = some y) (hyl : X.env.scope.names.lookup y = some .local) (hp : i ∉ P)
    (hsw : swapsWith (.ListComp elt [⟨tg, iter, ifs, 0⟩] scope pos) (some (.Name y py)) spos.line X.env = pure true) (hi : PI X tg iter (tI Γ W ci)) (ok : BlkOk X.N X.env.scope scope own) (ht : TgOk Γ t g) (hv : ∀ j ∈ g.slots, j ∈ own.map (·.2))
    (hg : ∀ (s : Shared) (H : Hp) (C : Addr) (cl : List (Str × Addr)) (fp : List Addr), PG (X.blk s H scope (compEnvC scope cl C X.env) fp) tg t) (hts : ∀ (s : Shared) (H : Hp) (C : Addr) (cl : List (Str × Addr)) (fp : List Addr), PTs (X.blk s H scope (compEnvC scope cl C X.env) fp) ifs (tMb Γ W0 tt))
    (he : ∀ (s : Shared) (H : Hp) (C : Addr) (cl : List (Str × Addr)) (fp : List Addr), PE (X.blk s H scope (compEnvC scope cl C X.env) fp) elt (tM Γ W0 c)) (hs : ∀ x, foldedSetIterable iter X.env x = pure x) :
    PS X (.Assign [.Name y py] (.ListComp elt [⟨tg, iter, ifs, 0⟩] scope pos) spos) (tS Γ W P (cSet own' i (cLc ci (own.map (·.2)) g tt c))) :=
  (ps_setLc hc hN hy hyl hsw hi ok hg hts he hs).imp fun D σ H ⟨F, E, C, R, ρ, S, rel, sk⟩ => lc_core' (W := W) ht hv ⟨F, E, C, R, ρ, S, rel, CK.bindS sk fun r ρ1 S1 w1 v x1 rel1 o1 sk1 => setS_ok hp x1 rel1 o1 sk1⟩
end
end
end DV

/-! DVk: things changed where they stand; a thing goes to the store; a def by its body. -/
namespace DV
open PySem PySem.Spec PyProof.Rows L2

/-! ### places -/
def Sl.one : Sl → Bool
  | .lst _ => true
  | .dK _ => true
  | .dT _ => true
  | _ => false
def Sl.one? (s : Sl) : Option Sl := if s.one then some s else none
def getP (r : Rv) (ρ S : List Sl) : Option Sl := match r with
  | .env i => (ρ[i]?).bind Sl.one?
  | .d (.ob j) => (S[j]?).bind Sl.one?
  | _ => none
def putP (r : Rv) (s : Sl) (ρ S : List Sl) : List Sl × List Sl := match r with
  | .env i => (ρ.set i s, S)
  | .d (.ob j) => (ρ, S.set j s)
  | _ => (ρ, S)
def Rv.isEnv : Rv → Bool
  | .env _ => true
  | _ => false
section
variable {Γ : Gm} {W : WX} {w w0 w1 : Wd} {σ : L2.St} {ρ S : List Sl}
theorem one_of {s s' : Sl} (h : s.one? = some s') : s' = s ∧ s.one = true := by
  unfold Sl.one? at h
  split at h
  · cases h; exact ⟨rfl, by assumption⟩
  · cases h
theorem Own.one_of {R : List Addr} {F : Hp} {s : Sl} {v : V} {c : Cells} (e : s.one = true) (h : Own Γ R F s v c) : ∃ a o, v = .ref a ∧ c = [(a, o)] := by
  cases s with
  | lst xs => rw [Own] at h; obtain ⟨a, ys, e1, _, e2⟩ := h; exact ⟨a, _, e1, e2⟩
  | dK xs => rw [Own] at h; obtain ⟨a, ys, e1, _, e2⟩ := h; exact ⟨a, _, e1, e2⟩
  | dT xs => rw [Own] at h; obtain ⟨a, ys, e1, _, e2⟩ := h; exact ⟨a, _, e1, e2⟩
  | _ => cases e
/-- one cell is written -/
theorem Good.put {A B E' C' : Cells} {a : Addr} {ob o' : HO} (g : Good w) (e : w.E ++ w.C = A ++ [(a, ob)] ++ B) (e' : E' ++ C' = A ++ [(a, o')] ++ B) (nt : ∀ ps, ob ≠ .tbl ps) :
    Good ⟨w.F, E', C', w.R, upd w.H a o'⟩ ∧ Ext w ⟨w.F, E', C', w.R, upd w.H a o'⟩ := by
  have ha := g.cell (a, ob) (by rw [e]; simp)
  have nd := g.nd
  have ead : w.ad = A.map (·.1) ++ [a] ++ B.map (·.1) := by show (w.E ++ w.C).map _ = _; rw [e]; simp
  have ead' : (E' ++ C').map (·.1) = w.ad := by rw [ead, e']; simp
  rw [ead] at nd
  have inA : a ∈ w.ad := by rw [ead]; simp
  have neA : ∀ p, p ∈ A ∨ p ∈ B → p.1 ≠ a := by
    intro p hp z
    obtain ⟨n1, n2, n3⟩ := List.nodup_append.mp nd
    obtain ⟨n4, n5, n6⟩ := List.nodup_append.mp n1
    rcases hp with y | y
    · exact n6 _ (List.mem_map_of_mem y) a (by simp) z
    · exact n3 a (by simp) _ (List.mem_map_of_mem y) z.symm
  refine ⟨⟨fun b u h => ?_, fun p hp => ?_, ?_⟩, ⟨.refl, fun b u h _ n => ?_, fun b ps h => ⟨#[], ?_⟩, fun b z => .inl ?_, fun _ _ h => .inl h, fun b u h => ?_⟩⟩
  · have ne : b ≠ a := fun z => by subst z; rw [show w.F b = none from ha.2] at h; cases h
    show upd w.H a o' b = some u
    rw [upd_ne ne]
    exact g.sub _ _ h
  · have hp : p ∈ A ++ [(a, o')] ++ B := by rw [← e']; exact hp
    simp only [List.mem_append, List.mem_singleton] at hp
    have other : p ∈ A ∨ p ∈ B → upd w.H a o' p.1 = some p.2 ∧ w.F p.1 = none := fun h => by
      rw [upd_ne (neA p h)]
      exact g.cell p (by rw [e]; simp only [List.mem_append]; rcases h with h | h <;> simp [h])
    rcases hp with (hp | hp) | hp
    · exact other (.inl hp)
    · subst hp
      exact ⟨upd_same, ha.2⟩
    · exact other (.inr hp)
  · show ((E' ++ C').map (·.1)).Nodup
    rw [ead']
    exact g.nd
  · show upd w.H a o' b = some u
    rw [upd_ne (fun z => n (by rw [z]; exact inA))]
    exact h
  · show upd w.H a o' b = _
    by_cases z : b = a
    · subst z
      rw [show w.H b = some ob from ha.1] at h
      cases h
      exact absurd rfl (nt ps)
    · rw [upd_ne z, h]; simp
  · have z : b ∈ (E' ++ C').map (·.1) := z
    rw [ead'] at z
    exact z
  · by_cases z : b = a
    · subst z; exact ⟨o', upd_same⟩
    · exact ⟨u, by show upd w.H a o' b = _; rw [upd_ne z]; exact h⟩
theorem Rel.place {r : Rv} {v : V} {s : Sl} (h : Rel Γ w ρ S σ) (o : RvOk Γ w0 w σ r v) (e : getP r ρ S = some s) : ∃ a ob, v = .ref a ∧ w.H a = some ob ∧ Own Γ w.R w.F s v [(a, ob)] ∧
    ∀ s' o', Own Γ w.R w.F s' v [(a, o')] → ∃ w', w'.H = upd w.H a o' ∧ Ext w w' ∧ (r.isEnv = false → w'.E = w.E) ∧ Rel Γ w' (putP r s' ρ S).1 (putP r s' ρ S).2 σ ∧ w'.R = w.R ∧ w'.F = w.F := by
  cases r with
  | env i =>
    have e : (ρ[i]?).bind Sl.one? = some s := e
    have o : σ[i]? = some (some v) := o
    cases q : ρ[i]? with
    | none => rw [q] at e; cases e
    | some s1 =>
      rw [q] at e
      obtain ⟨e1, e2⟩ := DV.one_of e
      subst e1
      obtain ⟨o1, A, B, b, h1, h2, h3, h4⟩ := h.own.env_at q
      rw [o] at h1; cases h1
      obtain ⟨v', ev, ow⟩ := OwnO.of_ne h3 (fun z => by subst z; cases e2)
      cases ev
      obtain ⟨a, ob, e3, e4⟩ := Own.one_of e2 ow
      subst e4
      have nt := Own.nt _ _ _ ow (a, ob) (by simp)
      refine ⟨a, ob, e3, (h.good.cell (a, ob) (by rw [h2]; simp)).1, ow, fun s' o' ow' => ?_⟩
      obtain ⟨g', x'⟩ := h.good.put (a := a) (ob := ob) (o' := o') (A := A) (B := B ++ w.C) (E' := A ++ [(a, o')] ++ B) (C' := w.C) (by rw [h2]; simp) (by simp) nt
      refine ⟨_, rfl, x', fun z => absurd (show true = false from z) (by decide), ⟨g', ?_⟩, rfl, rfl⟩
      have z := h4 w.F (fun _ _ h => h) s' (some v) _ (.mk ow')
      rw [set_same o] at z
      exact z
  | d x =>
    cases x with
    | ob j =>
      have e : (S[j]?).bind Sl.one? = some s := e
      have o : Rep Γ w.R w.F (.ob j) v := o
      cases q : S[j]? with
      | none => rw [q] at e; cases e
      | some s1 =>
        rw [q] at e
        obtain ⟨e1, e2⟩ := DV.one_of e
        subst e1
        obtain ⟨a', A, B, b, h1, h2, h3, h4⟩ := h.own.sto_at q
        rw [Rep] at o
        obtain ⟨a, e5, e6⟩ := o
        rw [h1] at e5; cases e5
        subst e6
        obtain ⟨v', ev, ow⟩ := OwnO.of_ne h3 (fun z => by subst z; cases e2)
        cases ev
        obtain ⟨a, ob, e3, e4⟩ := Own.one_of e2 ow
        cases e3
        subst e4
        have nt := Own.nt _ _ _ ow (a', ob) (by simp)
        refine ⟨a', ob, rfl, (h.good.cell (a', ob) (by rw [h2]; simp)).1, ow, fun s' o' ow' => ?_⟩
        obtain ⟨g', x'⟩ := h.good.put (a := a') (ob := ob) (o' := o') (A := w.E ++ A) (B := B) (E' := w.E) (C' := A ++ [(a', o')] ++ B) (by rw [h2]; simp) (by simp) nt
        exact ⟨_, rfl, x', fun _ => rfl, ⟨g', h4 w.F (fun _ _ h => h) s' _ (.mk ow')⟩, rfl, rfl⟩
    | _ => cases e
  | fr _ => cases e
end

/-! ### o[i] = e -/
def cPut (g : Sl → D → D → Option Sl) (c co ci : M Rv) : M Fl := fun ρ S => (cD c ρ S).bind fun d ρ S => (co ρ S).bind fun ro ρ S => (ci ρ S).bind fun ri ρ S => match getP ro ρ S, cont ρ S ri with
  | some s, some k => (match g s k d with
    | some s' => .ok .nx (putP ro s' ρ S).1 (putP ro s' ρ S).2 false
    | none => .bad)
  | _, _ => .bad
def SetOk (Γ : Gm) (g : Sl → D → D → Option Sl) (t : TSet) : Prop := ∀ (w : Wd) (a : Addr) (ob : HO) (s s' : Sl) (k d : D) (vk vd : V) (Q : Hp → Prop), Good w → w.H a = some ob → Own Γ w.R w.F s (.ref a) [(a, ob)] → Top Γ w k vk → Rep Γ w.R w.F d vd → g s k d = some s' →
  (∀ o', Own Γ w.R w.F s' (.ref a) [(a, o')] → Q (upd w.H a o')) → t (.ref a) vk vd w.H Q
def puk {κ : Type} [DecidableEq κ] (kvs : List (κ × D)) (k : κ) (d : D) : List (κ × D) :=
  if (kvs.any fun kv => decide (kv.1 = k)) = true then kvs.map (fun kv => if kv.1 = k then (kv.1, d) else kv) else kvs ++ [(k, d)]
def stL : Sl → D → D → Option Sl
  | .lst xs, .int k, d => (ixN xs.length k).map fun j => .lst (xs.set j d)
  | _, _, _ => none
def stD : Sl → D → D → Option Sl
  | .dK kvs, k, d => if kvs.length < sizeLine then (keyD k).map fun k => .dK (puk kvs k d) else none
  | .dT kvs, .tup ks, d => if kvs.length < sizeLine then (keysD ks).map fun k => .dT (puk kvs k d) else none
  | _, _, _ => none
def stS : Sl → D → D → Option Sl := fun s k d => (stL s k d).or (stD s k d)
theorem _root_.L2.PSet.or {X : Cx} {t t' : TSet} (h : PSet X t) (h' : PSet X t') : PSet X (fun o i v H Q => t o i v H Q ∨ t' o i v H Q) := fun pins s σ H o i v ov iv u Q I ro ri rv hq => hq.elim (h pins s σ H o i v ov iv u Q I ro ri rv) (h' pins s σ H o i v ov iv u Q I ro ri rv)
section
variable {Γ : Gm} {W : WX} {P : List Nat} {w w0 w1 : Wd} {σ : L2.St} {ρ S : List Sl} {X : Cx}
theorem SetOk.or {g g' : Sl → D → D → Option Sl} {t t' : TSet} (h : SetOk Γ g t) (h' : SetOk Γ g' t') : SetOk Γ (fun s k d => (g s k d).or (g' s k d)) (fun o i v H Q => t o i v H Q ∨ t' o i v H Q) := by
  intro w a ob s s' k d vk vd Q gd ha ow tk rd e q
  cases e1 : g s k d with
  | some z =>
    simp only [e1, Option.or] at e
    cases e
    exact .inl (h w a ob s s' k d vk vd Q gd ha ow tk rd e1 q)
  | none =>
    simp only [e1, Option.or] at e
    exact .inr (h' w a ob s s' k d vk vd Q gd ha ow tk rd e q)
theorem RepL.set {R : List Addr} {F : Hp} {d : D} {v : V} (r : Rep Γ R F d v) : ∀ {xs : List D} {ys : List V} (j : Nat), RepL Γ R F xs ys → RepL Γ R F (xs.set j d) (ys.set j v)
  | [], ys, j, h => by rw [RepL] at h; subst h; simp [RepL]
  | x :: xs, ys, 0, h => by
    rw [RepL] at h
    obtain ⟨y, r', e, q, l⟩ := h
    subst e
    rw [List.set_cons_zero, List.set_cons_zero, RepL]
    exact ⟨v, r', rfl, r, l⟩
  | x :: xs, ys, j + 1, h => by
    rw [RepL] at h
    obtain ⟨y, r', e, q, l⟩ := h
    subst e
    rw [List.set_cons_succ, List.set_cons_succ, RepL]
    exact ⟨y, _, rfl, q, RepL.set r j l⟩
theorem sL : SetOk Γ stL rSetL := by
  intro w a ob s s' k d vk vd Q gd ha ow tk rd e q
  cases s with
  | lst xs =>
    cases k with
    | int k =>
      obtain ⟨j, e1, e2⟩ := Option.map_eq_some_iff.mp e
      subst e2
      rw [Own] at ow
      obtain ⟨a', ys, e3, l, e4⟩ := ow
      cases e3
      cases e4
      refine ⟨a, ys, k, j, rfl, top_int tk, ha, by rw [← l.length]; exact e1, q _ ?_⟩
      rw [Own]
      exact ⟨a, _, rfl, l.set rd j, rfl⟩
    | _ => cases e
  | _ => cases e
theorem RepK.any {R : List Addr} {F : Hp} (k : Key) : ∀ {xs : List (Key × D)} {ys : List (Key × V)}, RepK Γ R F xs ys → (xs.any fun kv => decide (kv.1 = k)) = (ys.any fun kv => decide (kv.1 = k))
  | [], ys, h => by rw [RepK] at h; subst h; rfl
  | (j, x) :: xs, ys, h => by
    rw [RepK] at h
    obtain ⟨y, r, e, q, l⟩ := h
    subst e
    simp only [List.any_cons, RepK.any k l]
theorem RepT.any {R : List Addr} {F : Hp} (k : List Key) : ∀ {xs : List (List Key × D)} {ys : List (List Key × V)}, RepT Γ R F xs ys → (xs.any fun kv => decide (kv.1 = k)) = (ys.any fun kv => decide (kv.1 = k))
  | [], ys, h => by rw [RepT] at h; subst h; rfl
  | (j, x) :: xs, ys, h => by
    rw [RepT] at h
    obtain ⟨y, r, e, q, l⟩ := h
    subst e
    simp only [List.any_cons, RepT.any k l]
theorem RepK.map {R : List Addr} {F : Hp} (k : Key) {d : D} {v : V} (rd : Rep Γ R F d v) : ∀ {xs : List (Key × D)} {ys : List (Key × V)}, RepK Γ R F xs ys → RepK Γ R F (xs.map (fun kv => if kv.1 = k then (kv.1, d) else kv)) (ys.map (fun kv => if kv.1 = k then (kv.1, v) else kv))
  | [], ys, h => by rw [RepK] at h; subst h; simp [RepK]
  | (j, x) :: xs, ys, h => by
    rw [RepK] at h
    obtain ⟨y, r, e, q, l⟩ := h
    subst e
    rw [List.map_cons, List.map_cons]
    by_cases z : j = k
    · simp only [z, if_true, RepK]
      exact ⟨v, _, rfl, rd, RepK.map k rd l⟩
    · simp only [z, if_false, RepK]
      exact ⟨y, _, rfl, q, RepK.map k rd l⟩
theorem RepT.map {R : List Addr} {F : Hp} (k : List Key) {d : D} {v : V} (rd : Rep Γ R F d v) : ∀ {xs : List (List Key × D)} {ys : List (List Key × V)}, RepT Γ R F xs ys → RepT Γ R F (xs.map (fun kv => if kv.1 = k then (kv.1, d) else kv)) (ys.map (fun kv => if kv.1 = k then (kv.1, v) else kv))
  | [], ys, h => by rw [RepT] at h; subst h; simp [RepT]
  | (j, x) :: xs, ys, h => by
    rw [RepT] at h
    obtain ⟨y, r, e, q, l⟩ := h
    subst e
    rw [List.map_cons, List.map_cons]
    by_cases z : j = k
    · simp only [z, if_true, RepT]
      exact ⟨v, _, rfl, rd, RepT.map k rd l⟩
    · simp only [z, if_false, RepT]
      exact ⟨y, _, rfl, q, RepT.map k rd l⟩
theorem RepK.snoc {R : List Addr} {F : Hp} {k : Key} {d : D} {v : V} (rd : Rep Γ R F d v) : ∀ {xs : List (Key × D)} {ys : List (Key × V)}, RepK Γ R F xs ys → RepK Γ R F (xs ++ [(k, d)]) (ys ++ [(k, v)])
  | [], ys, h => by rw [RepK] at h; subst h; show RepK Γ R F [(k, d)] [(k, v)]; rw [RepK]; exact ⟨v, [], rfl, rd, by rw [RepK]⟩
  | (j, x) :: xs, ys, h => by
    rw [RepK] at h
    obtain ⟨y, r, e, q, l⟩ := h
    subst e
    rw [List.cons_append, List.cons_append, RepK]
    exact ⟨y, _, rfl, q, RepK.snoc rd l⟩
theorem RepT.snoc {R : List Addr} {F : Hp} {k : List Key} {d : D} {v : V} (rd : Rep Γ R F d v) : ∀ {xs : List (List Key × D)} {ys : List (List Key × V)}, RepT Γ R F xs ys → RepT Γ R F (xs ++ [(k, d)]) (ys ++ [(k, v)])
  | [], ys, h => by rw [RepT] at h; subst h; show RepT Γ R F [(k, d)] [(k, v)]; rw [RepT]; exact ⟨v, [], rfl, rd, by rw [RepT]⟩
  | (j, x) :: xs, ys, h => by
    rw [RepT] at h
    obtain ⟨y, r, e, q, l⟩ := h
    subst e
    rw [List.cons_append, List.cons_append, RepT]
    exact ⟨y, _, rfl, q, RepT.snoc rd l⟩
theorem RepK.length {R : List Addr} {F : Hp} : ∀ {xs : List (Key × D)} {ys : List (Key × V)}, RepK Γ R F xs ys → xs.length = ys.length
  | [], ys, h => by rw [RepK] at h; subst h; rfl
  | (j, x) :: xs, ys, h => by
    rw [RepK] at h
    obtain ⟨y, r, e, q, l⟩ := h
    subst e
    simp [RepK.length l]
theorem RepT.length {R : List Addr} {F : Hp} : ∀ {xs : List (List Key × D)} {ys : List (List Key × V)}, RepT Γ R F xs ys → xs.length = ys.length
  | [], ys, h => by rw [RepT] at h; subst h; rfl
  | (j, x) :: xs, ys, h => by
    rw [RepT] at h
    obtain ⟨y, r, e, q, l⟩ := h
    subst e
    simp [RepT.length l]
theorem RepK.put {R : List Addr} {F : Hp} {k : Key} {d : D} {v : V} (rd : Rep Γ R F d v) {xs : List (Key × D)} {ys : List (Key × V)} (h : RepK Γ R F xs ys) : RepK Γ R F (puk xs k d) (putK ys k v) := by
  unfold puk putK
  rw [h.any k]
  split
  · exact h.map k rd
  · exact h.snoc rd
theorem RepT.put {R : List Addr} {F : Hp} {k : List Key} {d : D} {v : V} (rd : Rep Γ R F d v) {xs : List (List Key × D)} {ys : List (List Key × V)} (h : RepT Γ R F xs ys) : RepT Γ R F (puk xs k d) (putK ys k v) := by
  unfold puk putK
  rw [h.any k]
  split
  · exact h.map k rd
  · exact h.snoc rd
theorem sD : SetOk Γ stD rSetD := by
  intro w a ob s s' k d vk vd Q gd ha ow tk rd e q
  cases s with
  | dK kvs =>
    simp only [stD] at e
    split at e
    · rename_i hl
      obtain ⟨j, e1, e2⟩ := Option.map_eq_some_iff.mp e
      subst e2
      rw [Own] at ow
      obtain ⟨a', ys, e3, l, e4⟩ := ow
      cases e3
      cases e4
      have rx : Rep Γ w.R w.F k vk := tk.rep_of (by cases k <;> first | exact .inl rfl | (simp [keyD] at e1)) (fun k z => by subst z; simp [keyD] at e1) (fun k z => by subst z; simp [keyD] at e1)
      rw [keyD_of e1 rx]
      refine ⟨a, _, rfl, DPut.k ha (by rw [← l.length]; exact hl), q _ ?_⟩
      rw [Own]
      exact ⟨a, _, rfl, l.put rd, rfl⟩
    · cases e
  | dT kvs =>
    cases k with
    | tup ks =>
      simp only [stD] at e
      split at e
      · rename_i hl
        obtain ⟨j, e1, e2⟩ := Option.map_eq_some_iff.mp e
        subst e2
        rw [Own] at ow
        obtain ⟨a', ys, e3, l, e4⟩ := ow
        cases e3
        cases e4
        obtain ⟨b, zs, ex, hb, lb⟩ := top_tup tk
        have ez := keysD_of e1 lb
        subst ez ex
        refine ⟨a, _, rfl, DPut.t ha (gd.sub _ _ hb) (by rw [← l.length]; exact hl), q _ ?_⟩
        rw [Own]
        exact ⟨a, _, rfl, l.put rd, rfl⟩
      · cases e
    | _ => cases e
  | _ => cases e
theorem pset_all (hu : X.A.units + 1 < cLine) : PSet X (fun o i v H Q => rSetL o i v H Q ∨ rSetD o i v H Q) := PSet.or set_list (set_dict hu)
theorem sAll : SetOk Γ stS (fun o i v H Q => rSetL o i v H Q ∨ rSetD o i v H Q) := SetOk.or sL sD
theorem pms_put {g : Sl → D → D → Option Sl} {t : TSet} {e o i : Expr} {c co ci : M Rv} {pos tpos : Pos} (hs : PSet X t) (ok : SetOk Γ g t) (he : PE X e (tM Γ W c)) (ho : PE X o (tM Γ W co)) (hi : PE X i (tM Γ W ci))
    (ha : ∀ v, assign (.Subscript o i tpos) X.env v = (do
      let ov ← holding [v] (eval o X.env)
      let iv ← holding [v, ov] (eval i X.env)
      standAt tpos
      holding [v, ov, iv] (setItem ov iv v)
      release [v, ov, iv] []))
    (h1 : swapsWithSole [.Subscript o i tpos] e pos.line X.env = pure false) (h2 : swappedStores [.Subscript o i tpos] e X.env = pure none) :
    PS X (.Assign [.Subscript o i tpos] e pos) (tS Γ W P (cPut g c co ci)) :=
  (ps_asg he (pg_sub ho hi hs ha) h1 h2).imp fun D σ H ⟨F, E, C, R, ρ, S, rel, sk⟩ => ⟨F, E, C, R, ρ, S, rel, CK.datumS sk fun d ρ1 S1 w1 v1 x1 rel1 o1 sk1 =>
    ⟨w1.F, w1.E, w1.C, w1.R, ρ1, S1, rel1, CK.bindS (SK.ext x1 .refl sk1) fun ro ρ2 S2 w2 v2 x2 rel2 o2 sk2 =>
      ⟨w2.F, w2.E, w2.C, w2.R, ρ2, S2, rel2, CK.bindS (SK.ext x2 .refl sk2) fun ri ρ3 S3 w3 v3 x3 rel3 o3 sk3 => by
        cases e1 : getP ro ρ3 S3 with
        | none => simp only [e1] at sk3; exact sk3.elim
        | some s =>
          cases e2 : cont ρ3 S3 ri with
          | none => simp only [e1, e2] at sk3; exact sk3.elim
          | some k =>
            simp only [e1, e2] at sk3
            cases e3 : g s k d with
            | none => simp only [e3] at sk3; exact sk3.elim
            | some s' =>
              simp only [e3] at sk3
              obtain ⟨a, ob, ev, ha, ow, fin⟩ := rel3.place (o2.up x3) e1
              subst ev
              refine ok w3 a ob s s' k d v3 v1 _ rel3.good ha ow (rel3.top o3 e2) ((o1.up x2.gr).up x3.gr) e3 fun o' ow' => ?_
              obtain ⟨w', eH, x', _, rel', _, _⟩ := fin s' o' ow'
              rw [← eH]
              exact sk3 w' σ (x3.trans x') .refl rel'⟩⟩⟩
end

/-! ### methods that change their thing -/
def tyS : String → Sl → Bool
  | T, .lst _ => T == "list"
  | T, .dK _ => T == "dict"
  | T, .dT _ => T == "dict"
  | _, _ => false
/-- g: what is handed back, and the thing behind -/
def cMm (T : String) (g : Sl → List D → Option (D × Sl)) (co : M Rv) (cs : M (List D)) : M Rv := fun ρ S => (co ρ S).bind fun ro ρ S => match getP ro ρ S with
  | some s0 => if tyS T s0 = true then (cs ρ S).bind fun ds ρ S => (match getP ro ρ S with
    | some s => (match g s ds with
      | some (d, s') => .ok (.d d) (putP ro s' ρ S).1 (putP ro s' ρ S).2 ro.isEnv
      | none => .bad)
    | none => .bad) else .bad
  | none => .bad
def MmOk (Γ : Gm) (g : Sl → List D → Option (D × Sl)) (r : V → List V → Hp → VK → Prop) : Prop := ∀ (w : Wd) (a : Addr) (ob : HO) (s s' : Sl) (d : D) (ds : List D) (vs : List V) (Q : VK), Good w → w.H a = some ob → Own Γ w.R w.F s (.ref a) [(a, ob)] → RepL Γ w.R w.F ds vs → g s ds = some (d, s') →
  (∀ o' v, Own Γ w.R w.F s' (.ref a) [(a, o')] → Rep Γ w.R w.F d v → Q v (upd w.H a o')) → r (.ref a) vs w.H Q
section
variable {Γ : Gm} {W : WX} {P : List Nat} {w w0 w1 : Wd} {σ : L2.St} {ρ S : List Sl} {X : Cx} {o e : Expr} {es : List Expr} {co : M Rv} {cs : M (List D)} {name : Str} {apos cpos : Pos} {T id : String} {g : Sl → List D → Option (D × Sl)} {r : V → List V → Hp → VK → Prop}
theorem tyS_of {K : PySem.W.Frag} {R : List Addr} {F : Hp} {s : Sl} {a : Addr} {ob : HO} (e : tyS T s = true) (h : w.H a = some ob) (ow : Own Γ R F s (.ref a) [(a, ob)]) : tyV K T (.ref a) w.H := by
  cases s with
  | lst xs => rw [Own] at ow; obtain ⟨a', ys, ev, l, ec⟩ := ow; cases ev; cases ec; exact .inl ⟨beq_iff_eq.mp e, ys, SqL.of h⟩
  | dK xs => rw [Own] at ow; obtain ⟨a', ys, ev, l, ec⟩ := ow; cases ev; cases ec; exact .inr (.inr (.inl ⟨beq_iff_eq.mp e, .inl ⟨ys, h⟩⟩))
  | dT xs => rw [Own] at ow; obtain ⟨a', ys, ev, l, ec⟩ := ow; cases ev; cases ec; exact .inr (.inr (.inl ⟨beq_iff_eq.mp e, .inr ⟨ys, h⟩⟩))
  | _ => cases e
theorem mm_core (hg : MmOk Γ g r) {Q : VK} (h : tM Γ W (cMm T g co cs) σ w.H Q) : tBM X.K T r (tM Γ W co) (tMl Γ W cs) σ w.H Q := by
  obtain ⟨F, E, C, R, ρ, S, rel, ck⟩ := h
  refine ⟨F, E, C, R, ρ, S, rel, CK.bind ck fun ro ρ1 S1 w1 v1 x1 rel1 o1 ck1 => ?_⟩
  cases e1 : getP ro ρ1 S1 with
  | none => simp only [e1] at ck1; exact ck1.elim
  | some s0 =>
    simp only [e1] at ck1
    split at ck1
    · rename_i ht
      obtain ⟨a, ob, ev, ha, ow, _⟩ := rel1.place o1 e1
      subst ev
      refine ⟨tyS_of ht ha ow, w1.F, w1.E, w1.C, w1.R, ρ1, S1, rel1, CKl.bindV ck1 fun ds ρ2 S2 w2 vs x2 rel2 o2 ck2 => ?_⟩
      cases e2 : getP ro ρ2 S2 with
      | none => simp only [e2] at ck2; exact ck2.elim
      | some s =>
        simp only [e2] at ck2
        cases e3 : g s ds with
        | none => simp only [e3] at ck2; exact ck2.elim
        | some p =>
          obtain ⟨d, s'⟩ := p
          simp only [e3] at ck2
          obtain ⟨a', ob', ev', ha', ow', fin⟩ := rel2.place (o1.up x2) e2
          cases ev'
          refine hg w2 a ob' s s' d ds vs Q rel2.good ha' ow' o2 e3 fun o' v ow2 rv => ?_
          obtain ⟨w', eH, x', eE, rel', eR, eF⟩ := fin s' o' ow2
          rw [← eH]
          exact ck2 w' v x' eE rel' (show Rep Γ w'.R w'.F d v by rw [eR, eF]; exact rv)
    · exact ck1.elim
theorem pm_mm (pa : PlainAttrs T) (slot : Slot T name id) (hty : typeOf (.builtin id) = pure (.type "method_descriptor")) (hm : MtR X id r) (hg : MmOk Γ g r) (ho : PE X o (tM Γ W co)) (ha : PA X (e :: es) (tMl Γ W cs))
    (hbase : attributeBase o name X.env (eval o X.env) = eval o X.env)
    (hfew : ((backTo cpos (starEach (e :: es) X.env)).all (fun x => !x.1) && (backToKw cpos (keywordEach [] X.env)).all (fun x => x.1.isSome)
      && decide ((e :: es).length + ([] : List Keyword).length + (if ([] : List Keyword).isEmpty then 0 else 1) < 30)) = true)
    (hline : (apos.endLine == cpos.line) = true) (hs : starEach (e :: es) X.env = (false, eval e X.env) :: starEach es X.env) (hplain : (backTo cpos (starEach es X.env)).any (·.1) = false) :
    PE X (.Call (.Attribute o name apos) (e :: es) [] cpos) (tM Γ W (cMm T g co cs)) :=
  (pe_bm pa slot hty hm ho ha hbase hfew hline hs hplain).imp fun σ H Q h => mm_core (w := ⟨fun _ => none, [], [], [], H⟩) hg h
theorem pm_mm0 (pa : PlainAttrs T) (slot : Slot T name id) (hty : typeOf (.builtin id) = pure (.type "method_descriptor")) (hm : MtR X id r) (hg : MmOk Γ g r) (ho : PE X o (tM Γ W co))
    (hbase : attributeBase o name X.env (eval o X.env) = eval o X.env) (hline : (apos.endLine == cpos.line) = true) :
    PE X (.Call (.Attribute o name apos) [] [] cpos) (tM Γ W (cMm T g co cNilD)) :=
  (pe_bm0 pa slot hty hm ho hbase hline).imp fun σ H Q h => by
    have z := mm_core (X := X) (w := ⟨fun _ => none, [], [], [], H⟩) hg h
    obtain ⟨F, E, C, R, ρ, S, rel, ck⟩ := z
    refine ⟨F, E, C, R, ρ, S, rel, ?_⟩
    cases q : co ρ S with
    | ok ro ρ1 S1 t =>
      rw [q] at ck
      refine fun w1 v x e rel1 o1 => ?_
      obtain ⟨ty, F2, E2, C2, R2, ρ2, S2, rel2, ck2⟩ := ck w1 v x e rel1 o1
      exact ⟨ty, ck2 ⟨F2, E2, C2, R2, w1.H⟩ [] (.refl _) (fun _ => rfl) rel2 (by rw [RepL])⟩
    | ex y ρ1 S1 => rw [q] at ck; exact ck
    | bad => rw [q] at ck; exact ck
/-! the methods -/
def gAppend : Sl → List D → Option (D × Sl)
  | .lst xs, [d] => if xs.length < sizeLine then some (.non, .lst (xs ++ [d])) else none
  | _, _ => none
def gPop : Sl → List D → Option (D × Sl)
  | .lst xs, [] => (xs[xs.length - 1]?).map fun d => (d, .lst xs.dropLast)
  | _, _ => none
def gPopAt : Sl → List D → Option (D × Sl)
  | .lst xs, [.int i] => if -(2 ^ 63) ≤ i ∧ i < 2 ^ 63 then (seqIndex? i xs.length).bind fun k => (xs[k]?).map fun d => (d, .lst (xs.eraseIdx k)) else none
  | _, _ => none
def gInsert : Sl → List D → Option (D × Sl)
  | .lst xs, [.int i, d] => if xs.length < sizeLine ∧ 0 ≤ i ∧ i < 2 ^ 63 then some (.non, .lst (xs.take i.toNat ++ [d] ++ xs.drop i.toNat)) else none
  | _, _ => none
theorem mmAppend : MmOk Γ gAppend rAppend := by
  intro w a ob s s' d ds vs Q gd ha ow rl e q
  match s, ds, e with
  | .lst xs, [x], e =>
    simp only [gAppend] at e
    split at e
    · rename_i hl
      cases e
      rw [Own] at ow
      obtain ⟨a', ys, e3, l, e4⟩ := ow
      cases e3; cases e4
      rw [RepL] at rl
      obtain ⟨y, r', e5, ry, rn⟩ := rl
      rw [RepL] at rn
      subst e5 rn
      refine ⟨a, ys, y, rfl, rfl, ha, by rw [← l.length]; exact hl, q _ _ ?_ rep_non⟩
      rw [Own]
      exact ⟨a, _, rfl, l.app (by rw [RepL]; exact ⟨y, [], rfl, ry, by rw [RepL]⟩), rfl⟩
    · cases e
theorem RepL.dropLast {R : List Addr} {F : Hp} {xs : List D} {ys : List V} (h : RepL Γ R F xs ys) : RepL Γ R F xs.dropLast ys.dropLast := by
  rw [List.dropLast_eq_take, List.dropLast_eq_take, h.length]
  exact h.take _
theorem RepL.eraseIdx {R : List Addr} {F : Hp} {xs : List D} {ys : List V} (k : Nat) (h : RepL Γ R F xs ys) : RepL Γ R F (xs.eraseIdx k) (ys.eraseIdx k) := by
  rw [List.eraseIdx_eq_take_drop_succ, List.eraseIdx_eq_take_drop_succ]
  exact (h.take k).app (h.drop (k + 1))
theorem mmPop : MmOk Γ gPop rPop := by
  intro w a ob s s' d ds vs Q gd ha ow rl e q
  match s, ds, e with
  | .lst xs, [], e =>
    obtain ⟨x, e1, e2⟩ := Option.map_eq_some_iff.mp e
    cases e2
    rw [Own] at ow
    obtain ⟨a', ys, e3, l, e4⟩ := ow
    cases e3; cases e4
    rw [RepL] at rl
    subst rl
    obtain ⟨v, hv, rv⟩ := l.get e1
    refine ⟨a, ys, v, rfl, rfl, ha, by rw [← l.length]; exact hv, q _ _ ?_ rv⟩
    rw [Own]
    exact ⟨a, _, rfl, l.dropLast, rfl⟩
theorem mmPopAt : MmOk Γ gPopAt rPopAt := by
  intro w a ob s s' d ds vs Q gd ha ow rl e q
  match s, ds, e with
  | .lst xs, [.int i], e =>
    simp only [gPopAt] at e
    split at e
    · rename_i hi
      obtain ⟨k, e0, e⟩ := Option.bind_eq_some_iff.mp e
      obtain ⟨x, e1, e2⟩ := Option.map_eq_some_iff.mp e
      cases e2
      rw [Own] at ow
      obtain ⟨a', ys, e3, l, e4⟩ := ow
      cases e3; cases e4
      rw [RepL] at rl
      obtain ⟨y, r', e5, ry, rn⟩ := rl
      rw [RepL] at rn
      subst e5 rn
      rw [Rep] at ry
      subst ry
      obtain ⟨v, hv, rv⟩ := l.get e1
      refine ⟨a, ys, i, k, v, rfl, rfl, ha, hi.1, hi.2, by rw [← l.length]; exact e0, hv, q _ _ ?_ rv⟩
      rw [Own]
      exact ⟨a, _, rfl, l.eraseIdx k, rfl⟩
    · cases e
theorem mmInsert : MmOk Γ gInsert (fun x vs H Q => ∃ (l : Addr) (xs : List V) (i : Int) (y : V), x = .ref l ∧ vs = [.int i, y] ∧ H l = some (.lst xs) ∧ xs.length < sizeLine ∧ 0 ≤ i ∧ i < 2 ^ 63 ∧
    Q .non (upd H l (.lst (xs.take i.toNat ++ [y] ++ xs.drop i.toNat)))) := by
  intro w a ob s s' d ds vs Q gd ha ow rl e q
  match s, ds, e with
  | .lst xs, [.int i, x], e =>
    simp only [gInsert] at e
    split at e
    · rename_i hi
      cases e
      rw [Own] at ow
      obtain ⟨a', ys, e3, l, e4⟩ := ow
      cases e3; cases e4
      rw [RepL] at rl
      obtain ⟨y0, r', e5, ry0, rl⟩ := rl
      rw [RepL] at rl
      obtain ⟨y, r2, e6, ry, rn⟩ := rl
      rw [RepL] at rn
      subst e5 e6 rn
      rw [Rep] at ry0
      subst ry0
      refine ⟨a, ys, i, y, rfl, rfl, ha, by rw [← l.length]; exact hi.1, hi.2.1, hi.2.2, q _ _ ?_ rep_non⟩
      rw [Own]
      exact ⟨a, _, rfl, ((l.take _).app (by rw [RepL]; exact ⟨y, [], rfl, ry, by rw [RepL]⟩)).app (l.drop _), rfl⟩
    · cases e
end

/-! ### a new thing goes to the store -/
def setSto (i : Nat) (r : Rv) : M Fl := fun ρ S => match r with
  | .fr s => if i < ρ.length ∧ s.one = true then .ok .nx (ρ.set i (.val (.ob S.length))) (S ++ [s]) false else .bad
  | _ => .bad
def cSto (i : Nat) (c : M Rv) : M Fl := fun ρ S => (c ρ S).bind fun r ρ S => setSto i r ρ S
section
variable {Γ : Gm} {W : WX} {P : List Nat} {w w0 w1 : Wd} {σ : L2.St} {ρ S : List Sl} {X : Cx}
theorem OwnS.snoc {R : List Addr} {F : Hp} {s : Sl} {a : Addr} {c : Cells} (o : OwnO Γ R F s (some (.ref a)) c) : ∀ {S : List Sl} {r : List Addr} {C : Cells}, OwnS Γ R F S r C → OwnS Γ R F (S ++ [s]) (r ++ [a]) (C ++ c)
  | [], r, C, h => by
    obtain ⟨rfl, rfl⟩ := h
    exact ⟨a, [], c, [], rfl, o, ⟨rfl, rfl⟩, by simp⟩
  | x :: S, r, C, h => by
    obtain ⟨b, r', c1, c2, e1, q, l, e2⟩ := h
    subst e1 e2
    exact ⟨b, r' ++ [a], c1, c2 ++ c, rfl, q, OwnS.snoc o l, by simp⟩
/-- a new thing becomes the store's -/
theorem Rel.push {s : Sl} {v : V} (x : Ext w0 w1) (h : Rel Γ w1 ρ S σ) (o : RvOk Γ w0 w1 σ (.fr s) v) (e : s.one = true) : ∃ w2, w2.H = w1.H ∧ Ext w0 w2 ∧ Rel Γ w2 ρ (S ++ [s]) σ ∧ w2.E = w1.E ∧ Rep Γ w2.R w2.F (.ob S.length) v := by
  obtain ⟨c, ow, f, b⟩ := o
  obtain ⟨a, ob, e1, e2⟩ := Own.one_of e ow
  subst e1 e2
  have g := h.good
  have gr : Gr w1.R (w1.R ++ [a]) w1.F w1.F := ⟨⟨[a], rfl⟩, fun _ _ h => h⟩
  have ha := f.at_ (a, ob) (by simp)
  have ead : Wd.ad ⟨w1.F, w1.E, w1.C ++ [(a, ob)], w1.R ++ [a], w1.H⟩ = w1.ad ++ [a] := by show (w1.E ++ (w1.C ++ [(a, ob)])).map _ = (w1.E ++ w1.C).map _ ++ _; simp
  refine ⟨⟨w1.F, w1.E, w1.C ++ [(a, ob)], w1.R ++ [a], w1.H⟩, rfl, ⟨x.gr.trans gr, x.keep, x.tab, fun z hz => ?_, x.fnew, x.live⟩, ⟨⟨g.sub, fun p hp => ?_, ?_⟩, h.own.1.up gr, ?_⟩, rfl, ?_⟩
  · rw [ead] at hz
    rcases List.mem_append.mp hz with y | y
    · exact x.cnew z y
    · have y : z = a := by simpa using y
      subst y
      rcases b (z, ob) (by simp) with y | y
      · exact .inr y
      · exact .inl y
  · have hp : p ∈ w1.E ++ (w1.C ++ [(a, ob)]) := hp
    rw [← List.append_assoc] at hp
    rcases List.mem_append.mp hp with y | y
    · exact g.cell p y
    · have y : p = (a, ob) := by simpa using y
      subst y
      exact ⟨ha.1, ha.2.1⟩
  · rw [ead]
    refine List.nodup_append.mpr ⟨g.nd, by simp, fun p hp q hq z => ?_⟩
    have hq : q = a := by simpa using hq
    subst hq
    exact ha.2.2.1 (z ▸ hp)
  · exact OwnS.snoc ((OwnO.mk ow).up gr) (h.own.2.up gr)
  · rw [Rep]
    have hl := h.own.2.length
    refine ⟨a, ?_, rfl⟩
    show (w1.R ++ [a])[S.length]? = some a
    rw [hl]
    simp
theorem setSto_ok {D : Ends} {i : Nat} {r : Rv} {v : V} (hp : i ∉ P) (x : Ext w0 w1) (h : Rel Γ w1 ρ S σ) (o : RvOk Γ w0 w1 σ r v) (sk : SK Γ W P w0 σ D (setSto i r ρ S)) : D.nx (σ.set i (some v)) w1.H := by
  cases r with
  | fr s =>
    simp only [setSto] at sk
    split at sk
    · rename_i hi
      obtain ⟨w2, eH, x2, r2, _, rep⟩ := Rel.push x h o hi.2
      obtain ⟨w3, e3, x3, r3, _, _⟩ := r2.setVal hi.1 rep
      have z := sk w3 (σ.set i (some v)) (x2.trans x3) (.set hp) r3
      rw [e3, eH] at z
      exact z
    · exact sk.elim
  | _ => exact sk.elim
theorem pms_sto {x : Str} {e : Expr} {c : M Rv} {i : Nat} {pos npos : Pos} (he : PE X e (tM Γ W c)) (hp : i ∉ P) (hN : X.N.Nodup) (hi : X.N[i]? = some x) (hx : Loc X.env.scope x) (hf : X.fn x = true ∨ X.env.scope.names.lookup x = some .local)
    (hs : swapsWithSole [.Name x npos] e pos.line X.env = pure false) (hw : swappedStores [.Name x npos] e X.env = pure none) : PS X (.Assign [.Name x npos] e pos) (tS Γ W P (cSto i c)) :=
  (ps_asg he (pg_name hN hi hx hf) hs hw).imp fun D σ H ⟨F, E, C, R, ρ, S, rel, sk⟩ => ⟨F, E, C, R, ρ, S, rel, CK.bindS sk fun r ρ1 S1 w1 v1 x1 rel1 o1 sk1 => setSto_ok hp x1 rel1 o1 sk1⟩
end

/-! ### tuple targets -/
def setT (g : Tgt) (d : D) : M Fl := fun ρ S => match bindT g d ρ with
  | some ρ' => .ok .nx ρ' S false
  | none => .bad
def cSetT (g : Tgt) (c : M Rv) : M Fl := fun ρ S => (cD c ρ S).bind fun d ρ S => setT g d ρ S
/-- a, b = x, y: the pair never stands -/
def cPar (i j : Nat) (cs : M (List D)) : M Fl := fun ρ S => (cs ρ S).bind fun ds ρ S => match ds with
  | [d, e] => if i < ρ.length ∧ j < ρ.length then .ok .nx ((ρ.set i (.val d)).set j (.val e)) S false else .bad
  | _ => .bad
def cPar3 (i j k : Nat) (cs : M (List D)) : M Fl := fun ρ S => (cs ρ S).bind fun ds ρ S => match ds with
  | [d, e, f] => if i < ρ.length ∧ j < ρ.length ∧ k < ρ.length then .ok .nx (((ρ.set i (.val d)).set j (.val e)).set k (.val f)) S false else .bad
  | _ => .bad
section
variable {Γ : Gm} {W : WX} {P : List Nat} {w w0 w1 : Wd} {σ : L2.St} {ρ S : List Sl} {X : Cx}
theorem pms_setT {tg e : Expr} {t : TG} {g : Tgt} {c : M Rv} {pos : Pos} (he : PE X e (tM Γ W c)) (hg : PG X tg t) (ht : TgOk Γ t g) (hP : ∀ j ∈ P, j ∉ g.slots)
    (hs : swapsWithSole [tg] e pos.line X.env = pure false) (hw : swappedStores [tg] e X.env = pure none) (h1 : (assignEach [tg] X.env).map (·.2) = [assign tg X.env]) : PS X (.Assign [tg] e pos) (tS Γ W P (cSetT g c)) :=
  (ps_asg he hg hs hw h1).imp fun D σ H ⟨F, E, C, R, ρ, S, rel, sk⟩ => ⟨F, E, C, R, ρ, S, rel, CK.datumS sk fun d ρ1 S1 w1 v1 x1 rel1 o1 sk1 => by
    simp only [setT] at sk1
    cases e1 : bindT g d ρ1 with
    | none => simp only [e1] at sk1; exact sk1.elim
    | some ρ2 =>
      simp only [e1] at sk1
      exact ht w1 ρ1 S1 σ d v1 ρ2 _ rel1 o1 e1 fun w' σ' eH x' _ _ rel' hj _ => sk1 w' σ' (x1.trans x') (fun j hj' => hj j (hP j hj')) rel'⟩
theorem pms_par {i j : Nat} {x y : Str} {a b : Expr} {cs : M (List D)} {px py pt pos : Pos} {kt k2 pt2} (hc : X.calm = true) (hN : X.N.Nodup) (hi : X.N[i]? = some x) (hj : X.N[j]? = some y) (hij : i ≠ j) (hpi : i ∉ P) (hpj : j ∉ P)
    (hx : X.env.scope.names.lookup x = some .local) (hy : X.env.scope.names.lookup y = some .local) (ha : PA X [a, b] (tMl Γ W cs))
    (hw : swappedStores [.Tuple [.Name x px, .Name y py] kt pt] (.Tuple [a, b] k2 pt2) X.env = pure (some [x, y]))
    (hs : swapsWithSole [.Tuple [.Name x px, .Name y py] kt pt] (.Tuple [a, b] k2 pt2) pos.line X.env = pure false) :
    PS X (.Assign [.Tuple [.Name x px, .Name y py] kt pt] (.Tuple [a, b] k2 pt2) pos) (tS Γ W P (cPar i j cs)) :=
  (ps_par hc hN hi hj hij hx hy ha hw hs).imp fun D σ H ⟨F, E, C, R, ρ, S, rel, sk⟩ => ⟨F, E, C, R, ρ, S, rel, CKl.bindS sk fun ds ρ1 S1 w1 vs x1 rel1 o1 sk1 => by
    match ds, o1, sk1 with
    | [d, e], o1, sk1 =>
      simp only at sk1
      split at sk1
      · rename_i hl
        rw [RepL] at o1
        obtain ⟨v, r1, e1, q1, o1⟩ := o1
        rw [RepL] at o1
        obtain ⟨u, r2, e2, q2, o1⟩ := o1
        rw [RepL] at o1
        subst o1 e2 e1
        obtain ⟨w2, eH2, x2, rel2, eF2, eR2⟩ := rel1.setVal hl.1 q1
        obtain ⟨w3, eH3, x3, rel3, eF3, eR3⟩ := rel2.setVal (i := j) (by rw [List.length_set]; exact hl.2) (q2.up x2.gr)
        refine ⟨v, u, rfl, ?_⟩
        rw [← eH2, ← eH3]
        exact sk1 w3 _ ((x1.trans x2).trans x3) (Pin.trans (.set hpi) (.set hpj)) rel3
      · exact sk1.elim
    | [], _, sk1 => exact sk1.elim
    | [_], _, sk1 => exact sk1.elim
    | _ :: _ :: _ :: _, _, sk1 => exact sk1.elim⟩
theorem pms_par3 {i j l : Nat} {x y z : Str} {a b c : Expr} {cs : M (List D)} {px py pz pt pos : Pos} {kt k2 pt2} (hc : X.calm = true) (hN : X.N.Nodup) (hi : X.N[i]? = some x) (hj : X.N[j]? = some y) (hl : X.N[l]? = some z) (hij : i ≠ j) (hil : i ≠ l) (hjl : j ≠ l)
    (hpi : i ∉ P) (hpj : j ∉ P) (hpl : l ∉ P) (hx : X.env.scope.names.lookup x = some .local) (hy : X.env.scope.names.lookup y = some .local) (hz : X.env.scope.names.lookup z = some .local) (ha : PA X [a, b, c] (tMl Γ W cs))
    (hw : swappedStores [.Tuple [.Name x px, .Name y py, .Name z pz] kt pt] (.Tuple [a, b, c] k2 pt2) X.env = pure (some [x, y, z]))
    (hs : swapsWithSole [.Tuple [.Name x px, .Name y py, .Name z pz] kt pt] (.Tuple [a, b, c] k2 pt2) pos.line X.env = pure false) :
    PS X (.Assign [.Tuple [.Name x px, .Name y py, .Name z pz] kt pt] (.Tuple [a, b, c] k2 pt2) pos) (tS Γ W P (cPar3 i j l cs)) :=
  (ps_par3 hc hN hi hj hl hij hil hjl hx hy hz ha hw hs).imp fun D σ H ⟨F, E, C, R, ρ, S, rel, sk⟩ => ⟨F, E, C, R, ρ, S, rel, CKl.bindS sk fun ds ρ1 S1 w1 vs x1 rel1 o1 sk1 => by
    match ds, o1, sk1 with
    | [d, e, f], o1, sk1 =>
      simp only at sk1
      split at sk1
      · rename_i hl
        rw [RepL] at o1
        obtain ⟨v, r1, e1, q1, o1⟩ := o1
        rw [RepL] at o1
        obtain ⟨u, r2, e2, q2, o1⟩ := o1
        rw [RepL] at o1
        obtain ⟨t, r3, e3, q3, o1⟩ := o1
        rw [RepL] at o1
        subst o1 e3 e2 e1
        obtain ⟨w2, eH2, x2, rel2, eF2, eR2⟩ := rel1.setVal hl.1 q1
        obtain ⟨w3, eH3, x3, rel3, eF3, eR3⟩ := rel2.setVal (i := j) (by rw [List.length_set]; exact hl.2.1) (q2.up x2.gr)
        obtain ⟨w4, eH4, x4, rel4, eF4, eR4⟩ := rel3.setVal (i := l) (by rw [List.length_set, List.length_set]; exact hl.2.2) ((q3.up x2.gr).up x3.gr)
        refine ⟨v, u, t, rfl, ?_⟩
        rw [← eH2, ← eH3, ← eH4]
        exact sk1 w4 _ (((x1.trans x2).trans x3).trans x4) (Pin.trans (Pin.trans (.set hpi) (.set hpj)) (.set hpl)) rel4
      · exact sk1.elim
    | [], _, sk1 => exact sk1.elim
    | [_], _, sk1 => exact sk1.elim
    | [_, _], _, sk1 => exact sk1.elim
    | _ :: _ :: _ :: _ :: _, _, sk1 => exact sk1.elim⟩
end

/-! ### a def by its body -/
def env0 (n : Nat) (ds : List D) : List Sl := ds.map .val ++ List.replicate (n - ds.length) .emp
def endM : Res Fl → Res Rv
  | .ok .nx _ S _ => .ok (.d .non) [] S false
  | .ok (.rt r) _ S _ => .ok r [] S false
  | .ex x _ S => .ex x [] S
  | _ => .bad
def defM (n : Nat) (c : M Fl) : List D → List Sl → Res Rv := fun ds S => endM (c (env0 n ds) S)
section
variable {Γ : Gm} {w w0 w1 : Wd} {σ : L2.St} {ρ S : List Sl}
theorem OwnE.emps {R : List Addr} {F : Hp} : ∀ k : Nat, OwnE Γ R F (List.replicate k .emp) (List.replicate k none) []
  | 0 => ⟨rfl, rfl⟩
  | k + 1 => ⟨none, List.replicate k none, [], [], rfl, rfl, OwnE.emps k, rfl⟩
theorem OwnE.params {R : List Addr} {F : Hp} (k : Nat) : ∀ {ds : List D} {vs : List V}, RepL Γ R F ds vs → OwnE Γ R F (ds.map Sl.val ++ List.replicate k .emp) (vs.map some ++ List.replicate k none) []
  | [], vs, h => by rw [RepL] at h; subst h; exact OwnE.emps k
  | d :: ds, vs, h => by
    rw [RepL] at h
    obtain ⟨v, vs', e, r, l⟩ := h
    subst e
    exact ⟨some v, vs'.map some ++ List.replicate k none, [], [], rfl, ⟨v, rfl, by rw [Own]; exact ⟨rfl, r⟩⟩, OwnE.params k l, rfl⟩
/-- behind a def: the frame's own things are nobody's -/
theorem Rel.leave (h : Rel Γ w1 ρ S σ) (x : Ext w0 w1) : Ext w0 ⟨w1.F, [], w1.C, w1.R, w1.H⟩ ∧ RelS Γ ⟨w1.F, [], w1.C, w1.R, w1.H⟩ S ∧ ∀ r v, RvOk Γ w0 w1 [] r v → RvOk Γ w0 ⟨w1.F, [], w1.C, w1.R, w1.H⟩ [] r v := by
  have sub : ∀ a, a ∈ Wd.ad ⟨w1.F, [], w1.C, w1.R, w1.H⟩ → a ∈ w1.ad := fun a z => by
    have z : a ∈ (([] : Cells) ++ w1.C).map (fun p => p.1) := z
    show a ∈ (w1.E ++ w1.C).map (fun p => p.1)
    rw [List.nil_append] at z
    rw [List.map_append]
    exact List.mem_append_right _ z
  refine ⟨⟨x.gr, x.keep, x.tab, fun a z => x.cnew a (sub a z), x.fnew, x.live⟩, h.callee, fun r v o => ?_⟩
  cases r with
  | d _ => exact o
  | env i => exact o
  | fr s =>
    obtain ⟨c, ow, f, b⟩ := o
    exact ⟨c, ow, ⟨fun p hp => by
      obtain ⟨a1, a2, a3, a4⟩ := f.at_ p hp
      exact ⟨a1, a2, fun z => a3 (sub _ z), a4⟩, f.nd⟩, b⟩
theorem fn_dv {P : Program} {wd : World} {K : PySem.W.Frag} {mg : Str → Option Value} {base : Heap} {k : Nat} {x qual : Str} {params : Arguments} {body : List Stmt} {scope : Scope} {dvs : List V} {kws : List (Str × V)} {f : Addr} {fd : FuncData} {N ps : List Str} {c : M Fl}
    (hF : FunD K x qual params body scope dvs kws f fd) (hS : FnScope N ps scope)
    (hb : ∀ (cdv : Value) (A : Around) (outer : List Env) (s : Shared) (H : Hp) (E : XK), Room k (A.deeper (envOfC qual scope s.heap.objs.size f cdv)) →
      Takes (cxOf (L2.CX P wd) P wd K mg base N qual scope f cdv A outer s H E) (fun cls d _ H => E cls d H) →
      PassesOwn (model P wd) (cxOf (L2.CX P wd) P wd K mg base N qual scope f cdv A outer s H E).A (cxOf (L2.CX P wd) P wd K mg base N qual scope f cdv A outer s H E).env (cxOf (L2.CX P wd) P wd K mg base N qual scope f cdv A outer s H E).xe →
      PSs (cxOf (L2.CX P wd) P wd K mg base N qual scope f cdv A outer s H E) body (tS Γ (fun cls d _ H => E cls d H) [] c)) :
    FnOk P wd K mg base (L2.CX P wd) (k + 1) f fd ps (spM Γ ps.length (defM N.length c)) := by
  refine hF.ok hS (sp := spM Γ ps.length (defM N.length c)) (fun vs H Q E h => (show vs.length = ps.length ∧ _ from h).1) fun cdv A outer s H vs Q E hr ⟨hl, F, C, R, S, ds, rel, l, fk⟩ => ?_
  refine ⟨_, hb cdv A outer s H E hr (takes_of rfl rfl rfl rfl) (passes_of rfl), ?_⟩
  have ln := l.length
  refine ⟨F, [], C, R, env0 N.length ds, S, ⟨rel.good, ?_, rel.own⟩, ?_⟩
  · unfold env0 L2.start
    rw [ln]
    exact OwnE.params _ l
  · unfold defM at fk
    cases q : c (env0 N.length ds) S with
    | ok fl ρ' S' t =>
      rw [q] at fk
      cases fl with
      | nx =>
        intro w' σ' x' p' rel'
        obtain ⟨x2, r2, o2⟩ := rel'.leave x'
        exact fk ⟨w'.F, [], w'.C, w'.R, w'.H⟩ .non x2 r2 (show Rep Γ w'.R w'.F .non .non from rep_non)
      | rt r =>
        intro w' σ' v x' p' rel' o'
        obtain ⟨x2, r2, o2⟩ := rel'.leave x'
        exact fk ⟨w'.F, [], w'.C, w'.R, w'.H⟩ v x2 r2 (o2 r v o')
      | bk => exact fk.elim
      | ct => exact fk.elim
    | ex y ρ' S' =>
      rw [q] at fk
      intro w' σ' cls d x' p' rel' o'
      obtain ⟨x2, r2, o2⟩ := rel'.leave x'
      exact fk ⟨w'.F, [], w'.C, w'.R, w'.H⟩ cls d x2 r2 (by cases y <;> exact o')
    | bad => rw [q] at fk; exact fk
end
end DV

/-! DVl: list(text); how many different things a list holds. -/
namespace DV
open PySem PySem.Spec PyProof.Rows L2

/-! ### the different ones among keys -/
def inK (l : List Key) : Key → Bool := fun k => l.any fun y => decide (y = k)
def stepK (l : List Key) (k : Key) : List Key := if inK l k = true then l else l ++ [k]
def metK (ks : List Key) (i : Nat) : List Key := (ks.take i).foldl stepK []
theorem metK_next {ks : List Key} {i : Nat} {k : Key} (h : ks[i]? = some k) : metK ks (i + 1) = stepK (metK ks i) k := by
  unfold metK
  rw [List.take_add_one, h, Option.toList_some, List.foldl_append]
  rfl
theorem stepK_len (l : List Key) (k : Key) : (stepK l k).length ≤ l.length + 1 := by
  unfold stepK
  split <;> simp
theorem metK_len (ks : List Key) : ∀ i, i ≤ ks.length → (metK ks i).length ≤ i
  | 0, _ => by simp [metK]
  | i + 1, h => by
    obtain ⟨k, e⟩ : ∃ k, ks[i]? = some k := ⟨ks[i], by simp [show i < ks.length from h]⟩
    rw [metK_next e]
    exact Nat.le_trans (stepK_len _ _) (Nat.succ_le_succ (metK_len ks i (Nat.le_of_lt h)))
theorem stepK_in (l : List Key) (v k : Key) : (inK l k || decide (k = v)) = inK (stepK l v) k := by
  unfold stepK
  by_cases h : inK l v = true
  · rw [if_pos h]
    by_cases e : k = v
    · subst e; simp [h]
    · simp [e]
  · rw [if_neg h]
    unfold inK
    rw [List.any_append]
    by_cases e : k = v
    · subst e; simp
    · have e2 : ¬ v = k := fun z => e z.symm
      simp [e, e2]
theorem stepK_count (l : List Key) (v : Key) : (if inK l v = true then l.length else l.length + 1) = (stepK l v).length := by
  unfold stepK
  by_cases h : inK l v = true
  · simp [h]
  · simp [h]
theorem SetOf.eq {prog : Program} {wd : World} {h : Heap} {a : Addr} {S S' : Key → Bool} {n n' : Nat} (r : h.SetOf (mixKind prog wd) a S n) (e : ∀ k, S k = S' k) (en : n = n') : h.SetOf (mixKind prog wd) a S' n' := by
  obtain rfl : S = S' := funext e
  subst en
  exact r
section
variable {prog : Program} {wd : World} {A : Around} {R : Result → Shared → Prop} {J : Addr} {fps wrs : List Addr} {gg : Array GenState → Array GenState → Prop} {m : Nat} {Pv : Nat → Value → Prop} {Sv : Nat → Shared → Prop}
abbrev SetM (prog : Program) (wd : World) (h : Heap) (a : Addr) (l : List Key) : Prop := h.SetOf (mixKind prog wd) a (inK l) l.length
theorem SetM.move {h h' : Heap} {a : Addr} {l : List Key} (k : ∀ o, h.get? a = some o → h'.get? a = some o) (r : SetM prog wd h a l) : SetM prog wd h' a l := by
  obtain ⟨o, es, ep, tb, ho, rest⟩ := r
  exact ⟨o, es, ep, tb, k o ho, rest⟩
/-- the loop of set(..), from the i-th item on -/
theorem set_loop (wk : WalksS prog wd A.in1 J fps wrs gg m Pv Sv) (B : Addr) (nB : B ∉ fps) (ks : List Key) (lk : ks.length = m)
    (vals : ∀ j u, Pv j u → ∃ k, ks[j]? = some k ∧ RelV (kV k) u) (room : m + 1 < scanBound) (d j : Nat) : ∀ z : Shared, m - j = d → j ≤ m → Sv j z → SetM prog wd z.heap B (metK ks j) →
      (∀ z', Moved (B :: wrs) gg z z' → SetM prog wd z'.heap B (metK ks m) → R (.ok (.ret .none)) z') → codeAny (model prog wd) A (.builtin "set.update.loop" ⟨[.ref B, .ref J], []⟩) R z := by
  have nw : B ∉ wrs := fun y => nB (wk.sub _ y)
  have wider : ∀ b ∈ wrs, b ∈ B :: wrs := fun b y => List.mem_cons_of_mem _ y
  induction d generalizing j with
  | zero =>
    intro z e le st cur fin
    obtain rfl : j = m := by omega
    refine codeAny_builtin PyProof.Rows.F.entry_set_update_loop ?_
    rw [Around.under_plainId PyProof.Rows.F.plain_set_update_loop _]
    show wpAny _ A.in1 (pyNext (.ref J) >>= _) _ _ z
    refine wpAny_bind (wk.done z _ _ st fun z' mv => ?_)
    show wpAny _ A.in1 (ret Value.none) _ _ z'
    exact wpAny_pure (fin z' (mv.mono wider) (cur.move fun o ho => mv.heap B _ nw ho))
  | succ d ih =>
    intro z e le st cur fin
    have lt : j < m := by omega
    refine codeAny_builtin PyProof.Rows.F.entry_set_update_loop ?_
    rw [Around.under_plainId PyProof.Rows.F.plain_set_update_loop _]
    show wpAny _ A.in1 (pyNext (.ref J) >>= _) _ _ z
    refine wpAny_bind (wk.item j z _ _ lt st fun u z' pu st' mv => ?_)
    obtain ⟨k, ek, ru⟩ := vals j u pu
    have cur' : SetM prog wd z'.heap B (metK ks j) := cur.move fun o ho => mv.heap B _ nw ho
    show wpAny _ A.in1 (holding [u] (setAdd B u) >>= _) _ _ z'
    refine wpAny_bind (wpAny_holding ?_)
    unfold setAdd
    refine wpAny_holding (wpAny_bind ((mixKind prog wd).pyHash (k := k) (kV_is ru) ?_))
    have lm : (metK ks j).length + 1 < scanBound := by have := metK_len ks j (by omega); omega
    refine wpAny_setAddHashed_of (knd := mixKind prog wd) (s := { z' with toks := z'.toks + 1 }) (kV_is ru) (key_scan ru) cur' lm fun h' sb new => ?_
    have nxt : SetM prog wd h' B (metK ks (j + 1)) := by
      rw [metK_next ek]
      exact SetOf.eq new (fun y => stepK_in _ _ _) (stepK_count _ _)
    refine wpAny_pure ⟨plainId_quiet PyProof.Rows.F.plain_set_update_loop _, ih (j + 1) _ (by omega) lt (wk.frame _ z' _ _ st' (Nat.le_succ _) fun b hb o eo => ?_) nxt fun z'' mv'' last => ?_⟩
    · rw [sb.2 b fun y : b = B => nB (y ▸ hb)]
      exact eo
    · refine fin z'' (Moved.trans wk.gtrans ((mv.mono wider).then_heap (Nat.le_succ _) fun b o hb eo => ?_) mv'') last
      rw [sb.2 b fun y : b = B => hb (by rw [y]; exact List.mem_cons_self)]
      exact eo
end
abbrev freshSet (led : Bool) : Obj := { cls := .type "set", dict := none, data := .set #[] 0 (.fresh 0 0 led) }
section
variable {prog : Program} {wd : World} {A : Around} {X0 : Value → Shared → Prop} {z : Shared}
abbrev SetDone (prog : Program) (wd : World) (z : Shared) (ks : List Key) (h' : Heap) : Prop := SetM prog wd h' z.heap.objs.size (metK ks ks.length) ∧ ∀ b o, b < z.heap.objs.size → z.heap.get? b = some o → h'.get? b = some o
set_option maxHeartbeats 3200000 in
theorem set_of_list {l : Addr} {its : Array Value} {ks : List Key} {Q : Value → Shared → Prop} (cool : A.handled = none) (at_l : z.heap.IsList l its) (lk : ks.length = its.size) (vals : ∀ (j : Nat) (u : Value), its[j]? = some u → ∃ k, ks[j]? = some k ∧ RelV (kV k) u)
    (room : its.size + 1 < scanBound) (fin : ∀ (h' : Heap) (tk : Nat), SetDone prog wd z ks h' → Q (.ref z.heap.objs.size) { z with heap := h', toks := tk }) : wpAny (model prog wd) A (call (.type "set") [.ref l]) Q X0 z := by
  obtain ⟨cc, tl, mro⟩ := PySem.F.called_set.mro
  have made := PySem.F.called_set.made
  have subs := PySem.F.called_set.sub
  refine wpAny_call (codeAny_of_tree ?_)
  show wpAny _ _ (callAny (.type "set") _) _ _ _
  refine wpAny_pure ⟨Code.quiet_builtin _ (by decide +kernel), codeAny_builtin PySem.F.entry_type_call ?_⟩
  rw [Around.under_plain (weight_type_call_type "set" [.ref l] []) rfl]
  have f1 := PySem.F.called_set.notType
  have f2 := PySem.F.called_set.canCreate
  have f3 := PySem.F.typeCall_set_1 (.ref l)
  repeat (any_goals (first | assumption | wp_step))
  refine codeAny_mono (code_set_new_1 (.ref l) (E := X0) (Q₁ := fun nw z1 => ∃ led : Bool, nw = .ref z.heap.objs.size ∧ z1 = { z with heap := z.heap.push (freshSet led) }) fun led => ⟨led, rfl, rfl⟩) fun r z1 hr => ?_
  cases r with
  | error e => exact hr
  | ok fl =>
    cases fl with
    | ret nw =>
      obtain ⟨led, rfl, rfl⟩ := hr
      have atS : (z.heap.push (freshSet led)).get? z.heap.objs.size = some (freshSet led) := Heap.get?_push_size _ rfl
      have tyS : Shared.TypeIs { z with heap := z.heap.push (freshSet led) } (.ref z.heap.objs.size) "set" := ⟨_, atS, rfl⟩
      have i1 := PySem.F.called_set.init.lookup
      have i2 := PySem.F.called_set.init.bind (.ref z.heap.objs.size)
      repeat (any_goals (first | assumption | wp_step))
      refine codeAny_mono (codeAny_call_builtin (R := wants (fun r z2 => r = .none ∧ ∃ h' tk, z2 = { z with heap := h', toks := tk } ∧ SetDone prog wd z ks h') X0) PySem.F.called_set.init.plain PySem.F.entry_set_init (check_set_init_1 tyS ?_)) fun r2 z2 hr2 => ?_
      · obtain ⟨⟨ocls, odict, odata, oslots⟩, ho, hcl, nl, hdl⟩ := at_l
        simp only at hcl hdl
        subst hcl hdl
        have ho2 : (z.heap.push (freshSet led)).get? l = some { cls := .type "list", dict := odict, data := .seq its nl, slots := oslots } := Heap.get?_push_of_some _ ho
        have s1 := PySem.F.sub_list_set
        have s2 := PySem.F.sub_list_frozenset
        have s3 : (Value.type "list" == Value.type "dict") = false := by decide
        have isl : (z.heap.push (freshSet led)).IsList l its := ⟨_, ho2, rfl, nl, rfl⟩
        unfold Builtin.«set.__init__» noKeywords Builtin.Frozenset.updateFrom
        generalize gI : pyIter = pI
        wp_walk
        subst gI
        refine wpAny_pyIter_list isl (wpAny_bind (wpAny_runValue ?_))
        have lS : l < z.heap.objs.size := Heap.lt_size ho
        have nI : l ≠ (z.heap.push (freshSet led)).objs.size := by
          rw [Heap.size_push]
          exact Nat.ne_of_lt (Nat.lt_succ_of_lt lS)
        have nF : z.heap.objs.size ∉ [(z.heap.push (freshSet led)).objs.size, l] := by
          rw [Heap.size_push]
          simp only [List.mem_cons, List.mem_singleton, List.not_mem_nil, or_false, not_or]
          exact ⟨Nat.ne_of_lt (Nat.lt_succ_self _), Nat.ne_of_gt lS⟩
        refine set_loop ((Walks.list (show A.in1.in1.in1.handled = none by simp [cool]) _ l nI its).toS) z.heap.objs.size nF ks lk vals room (its.size - 0) 0 _ (by omega) (Nat.zero_le _) ⟨⟨_, Heap.get?_push_size _ rfl, rfl, rfl⟩, (isl.push _)⟩ ?c1 ?c2
        case c1 =>
          have g2 : ((z.heap.push (freshSet led)).push { cls := .type "list_iterator", data := .fields #[.ref l, .int 0 0] }).get? z.heap.objs.size = some (freshSet led) := Heap.get?_push_of_some _ atS
          have e0 : ((z.heap.push (freshSet led)).push { cls := .type "list_iterator", data := .fields #[.ref l, .int 0 0] }).SetOf (mixKind prog wd) z.heap.objs.size (fun _ => false) 0 :=
            ⟨_, #[], 0, _, g2, ⟨rfl, rfl, rfl⟩, rfl, (fun e he => by simp at he), (fun k => by simp), (by decide), (by rfl), rfl⟩
          exact SetOf.eq e0 (fun y => by simp [inK, metK]) (by simp [metK])
        case c2 =>
          intro z' mv last
          obtain ⟨h', g', d', tk', os'⟩ := z'
          obtain rfl : g' = z.gens := mv.gens
          obtain rfl : d' = z.drawn := mv.drawn
          obtain rfl : os' = z.os := mv.os
          show wpAny _ _ _ _ _ _
          refine wpAny_pure ?_
          show wpAny _ _ (ret Value.none) _ _ _
          rw [← lk] at last
          refine wpAny_pure ⟨rfl, h', tk', rfl, last, fun b o hb eo => ?_⟩
          have nb : b ≠ (z.heap.push (freshSet led)).objs.size := by
            rw [Heap.size_push]
            exact Nat.ne_of_lt (Nat.lt_succ_of_lt hb)
          exact mv.heap b o (by simp only [List.mem_cons, List.mem_singleton, List.not_mem_nil, or_false, not_or]; exact ⟨Nat.ne_of_lt hb, nb⟩) (Heap.get?_push_of_some _ (Heap.get?_push_of_some _ eo))
      · cases r2 with
        | error e => exact hr2
        | ok f2 =>
          cases f2 with
          | ret r =>
            obtain ⟨rfl, h', tk, rfl, dn⟩ := hr2
            repeat (any_goals (first | assumption | wp_step))
            exact fin _ _ dn
          | _ => exact hr2.elim
    | _ => exact hr.elim
end

end DV

/-! DVm: built-in functions by data. -/
namespace DV
open PySem PySem.Spec PyProof.Rows L2

/-! ### len(set(xs)) by values -/
section
variable {X : Cx}
def rLenSet (K : PySem.W.Frag) : V → Hp → VK → Prop := fun x H Q => ∃ l ks, x = .ref l ∧ SqL K H l (ks.map kV) ∧ ks.length + 1 < scanBound ∧ Q (.int (metK ks ks.length).length) H
theorem keys_at : ∀ {ks : List Key} {us : List Value}, Vals (ks.map kV) us → ∀ (j : Nat) (u : Value), us[j]? = some u → ∃ k, ks[j]? = some k ∧ RelV (kV k) u
  | [], _, .nil, j, u, h => by simp at h
  | k :: ks, _, .cons r t, 0, u, h => by
    simp at h
    subst h
    exact ⟨k, by simp, r⟩
  | k :: ks, _, .cons r t, j + 1, u, h => by
    simp only [List.getElem?_cons_succ] at h ⊢
    exact keys_at t j u h
theorem pe_lenSetK {a : Expr} {ta : TE} {p p2 q pos : Pos} (hc : X.calm = true) (hg : Gl X "len") (hm : X.mg "len" = none) (hg2 : Gl X "set") (hm2 : X.mg "set" = none) (ha : PE X a ta) (na : starEach [a] X.env = (false, eval a X.env) :: starEach [] X.env) :
    PE X (.Call (.Name "len" p) [.Call (.Name "set" p2) [a] [] q] [] pos) (fun σ H Q => ta σ H fun x H1 => rLenSet X.K x H1 Q) := by
  refine ⟨fun pins z σ H Q I h => Call_ (ld_blt I hg hm boot_len (PyProof.Rows.callWith_builtin1 (PyProof.Rows.args_cons ?_ rfl) rfl rfl))⟩
  refine Call_ (ld_blt I hg2 hm2 boot_set (PyProof.Rows.callWith_type1 (PyProof.Rows.args_cons (thn (ha.run pins z σ H _ I h) fun v z1 ⟨x, H1, I1, r1, q1⟩ => PyProof.Rows.args_nil ?_) na) na rfl))
  obtain ⟨l, ks, rfl, hq, room, q1⟩ := q1
  cases r1
  obtain ⟨its, rv, pl, hz⟩ := I1.list hq
  have ln : ks.length = its.toArray.size := by rw [List.size_toArray, ← rv.length, List.length_map]
  refine set_of_list (I1.ok.hd hc) pl.isList ln (fun j u e => keys_at rv j u (by simpa using e)) (by omega) fun h' tk dn => PyProof.Rows.args_nil ?_
  obtain ⟨⟨o, es, ep, t, ho, hex, hd, _, _, _, hf, hn⟩, kp⟩ := dn
  have I2 : Inv X pins σ H1 { z1 with heap := h', toks := tk } := I1.kept fun b o e => kp b o (Heap.lt_size e) e
  have small := metK_len ks ks.length (Nat.le_refl _)
  unfold scanBound at room
  refine call_len_set ho hex hd hf (by rw [hn] <;> omega) ⟨.int (metK ks ks.length).length, H1, I2.tok _, ⟨_, by rw [hn]⟩, q1⟩
/-- list(text) -/
def signsV (x : Str) : List V := x.cps.toList.map fun c => .str ⟨#[c]⟩
theorem call_list_text (hc : X.calm = true) : CallR X (.type "list") (fun xs H Q => ∃ x : Str, xs = [.str x] ∧ x.length ≤ sizeLine ∧ ∀ l, H l = none → Q (.ref l) (upd H l (.lst (signsV x)))) := by
  intro pins z σ H xs us Q I r h
  obtain ⟨x, rfl, hz, q⟩ := h
  obtain ⟨u, rfl, t, rfl⟩ := vals1 r
  refine call_list_str (I.ok.hd hc) x t (hn := hz) fun h' tk acc c' kp e hacc => ?_
  have rv : Vals (signsV x) acc.toList := by
    refine vals_of_idx _ _ (by simp [signsV, hacc.1]) fun j u hu => ?_
    obtain ⟨ch, t', hc', rfl⟩ := hacc.2 j u (by simpa using hu)
    exact ⟨.str ⟨#[ch]⟩, by simp [signsV, hc'], t', rfl⟩
  exact ⟨.ref z.heap.objs.size, _, I.laid (t' := tk) kp (Nat.le_refl _) (show ObjOk X.prog X.w _ h' _ (.lst (signsV x)) from ⟨by simpa [signsV, Str.length] using hz, acc.toList, c', rv, by simpa using e⟩), rfl, q _ (I.hok.fresh (Nat.le_refl _))⟩
end

/-! ### len -/
section
variable {Γ : Gm} {X : Cx}
def gLenS : List D → Option Rv
  | [.str x] => if x.length ≤ sizeLine then some (.d (.int x.length)) else none
  | [.lst xs] => some (.d (.int xs.length))
  | [.kl xs] => some (.d (.int xs.length))
  | [.tup xs] => some (.d (.int xs.length))
  | [.kt xs] => some (.d (.int xs.length))
  | _ => none
def gLenK : List D → Option Rv
  | [.dK xs] => some (.d (.int xs.length))
  | _ => none
def gLenT : List D → Option Rv
  | [.dT xs] => some (.d (.int xs.length))
  | _ => none
def gLen : List D → Option Rv := fun ds => (gLenS ds).or ((gLenK ds).or (gLenT ds))
theorem topL1 {w : Wd} {d : D} {vs : List V} (h : TopL Γ w [d] vs) : ∃ v, vs = [v] ∧ Top Γ w d v := by
  obtain ⟨v, vs', e, t, r⟩ := h
  obtain rfl : vs' = [] := r
  exact ⟨v, e, t⟩
theorem topL2 {w : Wd} {d d' : D} {vs : List V} (h : TopL Γ w [d, d'] vs) : ∃ v v', vs = [v, v'] ∧ Top Γ w d v ∧ Top Γ w d' v' := by
  obtain ⟨v, vs', e, t, r⟩ := h
  obtain ⟨v', e', t'⟩ := topL1 r
  subst e e'
  exact ⟨v, v', rfl, t, t'⟩
theorem okLenS : CallOk Γ gLenS (fun xs H Q => ∃ x n, xs = [x] ∧ LenV Γ.K x H n ∧ Q (.int n) H) := by
  intro w vs ds Q gd t q
  match ds, q with
  | [.str x], q =>
    obtain ⟨v, rfl, t1⟩ := topL1 t
    simp only [gLenS] at q
    split at q
    · obtain rfl := top_str t1
      exact ⟨_, _, rfl, ⟨by assumption, rfl⟩, q.d gd rep_int⟩
    · exact q.elim
  | [.lst xs], q =>
    obtain ⟨v, rfl, a, ys, rfl, h, l⟩ := topL1 t
    exact ⟨_, _, rfl, .inl ⟨ys, SqL.of h, l.length⟩, q.d gd rep_int⟩
  | [.kl xs], q =>
    obtain ⟨v, rfl, t1⟩ := topL1 t
    obtain ⟨a, ys, rfl, h, l⟩ := top_kl t1
    exact ⟨_, _, rfl, .inl ⟨ys, SqL.up gd.sub h, l.length⟩, q.d gd rep_int⟩
  | [.tup xs], q =>
    obtain ⟨v, rfl, t1⟩ := topL1 t
    obtain ⟨a, ys, rfl, h, l⟩ := top_tup t1
    exact ⟨_, _, rfl, .inr ⟨ys, SqT.of (gd.sub _ _ h), l.length⟩, q.d gd rep_int⟩
  | [.kt xs], q =>
    obtain ⟨v, rfl, t1⟩ := topL1 t
    obtain ⟨a, ys, rfl, h, l⟩ := top_kt t1
    exact ⟨_, _, rfl, .inr ⟨ys, SqT.up gd.sub h, l.length⟩, q.d gd rep_int⟩
theorem okLenK : CallOk Γ gLenK (fun xs H Q => ∃ a kvs, xs = [V.ref a] ∧ H a = some (.dK kvs) ∧ Q (.int kvs.length) H) := by
  intro w vs ds Q gd t q
  match ds, q with
  | [.dK xs], q =>
    obtain ⟨v, rfl, a, ys, rfl, h, l⟩ := topL1 t
    exact ⟨_, _, rfl, h, q.d gd (by rw [l.length]; exact rep_int)⟩
theorem okLenT : CallOk Γ gLenT rLenT := by
  intro w vs ds Q gd t q
  match ds, q with
  | [.dT xs], q =>
    obtain ⟨v, rfl, a, ys, rfl, h, l⟩ := topL1 t
    exact ⟨_, _, rfl, h, q.d gd (by rw [l.length]; exact rep_int)⟩
abbrev rLen (K : PySem.W.Frag) : List V → Hp → VK → Prop := fun xs H Q => (∃ x n, xs = [x] ∧ LenV K x H n ∧ Q (.int n) H) ∨ ((∃ a kvs, xs = [V.ref a] ∧ H a = some (.dK kvs) ∧ Q (.int kvs.length) H) ∨ rLenT xs H Q)
theorem crLen : CallR X (.builtin "len") (rLen X.K) := CallR.or call_len (CallR.or call_lenD call_len_dT)
theorem okLen : CallOk Γ gLen (rLen Γ.K) := CallOk.or okLenS (CallOk.or okLenK okLenT)

/-! ### isinstance -/
inductive Ty where
  | non | bl | int | str | lst | tup | dct | ow (c : Nat)
  deriving DecidableEq
def Ty.name : Ty → String
  | .non => "NoneType"
  | .bl => "bool"
  | .int => "int"
  | .str => "str"
  | .lst => "list"
  | .tup => "tuple"
  | .dct => "dict"
  | .ow _ => "object"
def Ty.val (Γ : Gm) : Ty → Value
  | .ow c => .ref (Γ.cA c)
  | t => .type t.name
def D.typ : D → Option Ty
  | .non => some .non
  | .bl _ => some .bl
  | .int _ => some .int
  | .str _ => some .str
  | .lst _ => some .lst
  | .kl _ => some .lst
  | .tup _ => some .tup
  | .kt _ => some .tup
  | .dK _ => some .dct
  | .dT _ => some .dct
  | .ins c _ => some (.ow c)
  | _ => none
def D.asTy : D → Option Ty
  | .ty n => if n = "int" then some .int else if n = "bool" then some .bl else if n = "str" then some .str else if n = "list" then some .lst else if n = "tuple" then some .tup else if n = "dict" then some .dct else none
  | .cl c => some (.ow c)
  | _ => none
def asTys : List D → Option (List Ty)
  | [] => some []
  | d :: ds => match d.asTy, asTys ds with
    | some t, some ts => some (t :: ts)
    | _, _ => none
/-- ow: of two own classes -/
def isT (ow : Nat → Ty → Option Bool) : Ty → Ty → Option Bool
  | .ow c, t => ow c t
  | .non, .ow _ => none
  | _, .ow _ => none
  | .bl, .int => some true
  | t, u => some (decide (t = u))
def isAny (ow : Nat → Ty → Option Bool) (t : Ty) : List Ty → Option Bool
  | [] => some false
  | u :: us => match isT ow t u with
    | some true => some true
    | some false => isAny ow t us
    | none => none
def isO (ow : Nat → Ty → Option Bool) : List D → Option Rv
  | [x, c] => match x.typ, c.asTy with
    | some t, some u => (isT ow t u).map fun b => .d (.bl b)
    | _, _ => none
  | _ => none
def isM (ow : Nat → Ty → Option Bool) : List D → Option Rv
  | [x, .tup cs] => match x.typ, asTys cs with
    | some t, some (u :: us) => (isAny ow t (u :: us)).map fun b => .d (.bl b)
    | _, _ => none
  | _ => none
def gIsi (ow : Nat → Ty → Option Bool) : List D → Option Rv := fun ds => (isO ow ds).or (isM ow ds)
/-- what is known of the own classes -/
structure OwOk (Γ : Gm) (ow : Nat → Ty → Option Bool) : Prop where
  kit : ∀ c u b, ow c u = some b → PySem.W.kitOne Γ.K (.ref (Γ.cA c)) (u.val Γ) = some b
  cls : ∀ c u b, ow c u = some b → Cls Γ.K (Γ.cA c) ∧ PySem.W.findIn Γ.K (.ref (Γ.cA c)) "__class__" = some (some (.builtin "object.__class__")) ∧ PySem.W.specialIn Γ.K (.builtin "object.__class__") "__get__" = some (some (.builtin "getset_descriptor.__get__")) ∧
    PySem.W.takesIn Γ.K (.builtin "object.__class__") = some true ∧ PySem.W.mroIn Γ.K (Γ.cA c) (.type "object") = some true
theorem ow_none : OwOk Γ (fun _ _ => none) := by
  constructor
  · intro _ _ _ h; cases h
  · intro _ _ _ h; cases h
theorem kit_all : ∀ a ∈ [Ty.non, .bl, .int, .str, .lst, .tup, .dct], ∀ b ∈ [Ty.int, .bl, .str, .lst, .tup, .dct], kitB a.name b.name = isT (fun _ _ => none) a b := by decide +kernel
theorem asTy_cls {w : Wd} {d : D} {v : V} {t : Ty} (e : d.asTy = some t) (h : Rep Γ w.R w.F d v) : ClsV v (t.val Γ) ∧ (t ∈ [Ty.int, .bl, .str, .lst, .tup, .dct] ∨ ∃ c, t = .ow c) := by
  cases d with
  | ty n =>
    rw [Rep] at h
    subst h
    simp only [D.asTy] at e
    split at e
    · cases e; subst n; exact ⟨.ty _, .inl (by decide)⟩
    split at e
    · cases e; subst n; exact ⟨.ty _, .inl (by decide)⟩
    split at e
    · cases e; subst n; exact ⟨.ty _, .inl (by decide)⟩
    split at e
    · cases e; subst n; exact ⟨.ty _, .inl (by decide)⟩
    split at e
    · cases e; subst n; exact ⟨.ty _, .inl (by decide)⟩
    split at e
    · cases e; subst n; exact ⟨.ty _, .inl (by decide)⟩
    · cases e
  | cl c =>
    rw [Rep] at h
    subst h
    cases e
    exact ⟨.own _, .inr ⟨c, rfl⟩⟩
  | _ => cases e
theorem kit_is {ow : Nat → Ty → Option Bool} (O : OwOk Γ ow) {t u : Ty} {b : Bool} (hu : u ∈ [Ty.int, .bl, .str, .lst, .tup, .dct] ∨ ∃ c, u = .ow c) (e : isT ow t u = some b) : PySem.W.kitOne Γ.K (t.val Γ) (u.val Γ) = some b := by
  by_cases ht : ∃ c, t = .ow c
  · obtain ⟨c, rfl⟩ := ht
    exact O.kit c u b e
  · rcases hu with hu | ⟨c, rfl⟩
    · have ta : t ∈ [Ty.non, .bl, .int, .str, .lst, .tup, .dct] := by
        cases t with
        | ow c => exact absurd ⟨c, rfl⟩ ht
        | _ => simp
      have z := kit_all t ta u hu
      have e1 : isT (fun _ _ => none) t u = some b := by
        rw [← e]
        cases t with
        | ow c => exact absurd ⟨c, rfl⟩ ht
        | _ => cases u <;> first | rfl | (exfalso; revert hu; simp)
      have e2 : t.val Γ = .type t.name := by
        cases t with
        | ow c => exact absurd ⟨c, rfl⟩ ht
        | _ => rfl
      have e3 : u.val Γ = .type u.name := by
        cases u <;> first | rfl | (exfalso; revert hu; simp)
      rw [e2, e3]
      exact kit_ty (z.trans e1)
    · cases t with
      | ow c => exact absurd ⟨c, rfl⟩ ht
      | _ => cases e
theorem sqL_ty {w : Wd} {a : Addr} {ys : List V} (gd : Good w) (h : SqL Γ.K w.F a ys) : TyX Γ.K w.H (.ref a) (.type "list") := by
  rcases SqL.up gd.sub h with (h | ⟨o, h⟩) | ⟨o, its, n, e, c, _⟩
  · exact .base (.lst h)
  · exact .base (.frz h)
  · exact .kList e c
theorem sqT_ty {w : Wd} {a : Addr} {ys : List V} (gd : Good w) (h : SqT Γ.K w.F a ys) : TyX Γ.K w.H (.ref a) (.type "tuple") := by
  rcases SqT.up gd.sub h with (h | ⟨o, h⟩) | ⟨o, its, n, e, c, _⟩
  · exact .base (.tup h)
  · exact .fTuple h
  · exact .kTuple e c
theorem typ_of {ow : Nat → Ty → Option Bool} (O : OwOk Γ ow) {w : Wd} (gd : Good w) {d : D} {v : V} {t : Ty} (e : d.typ = some t) (hc : ∀ c, t = .ow c → ∃ u b, ow c u = some b) (h : Top Γ w d v) : TyX Γ.K w.H v (t.val Γ) := by
  cases d with
  | non => cases e; obtain rfl := top_non h; exact .base .non
  | bl b => cases e; obtain rfl := top_bl h; exact .base (.bl b)
  | int b => cases e; obtain rfl := top_int h; exact .base (.int b)
  | str b => cases e; obtain rfl := top_str h; exact .base (.str b)
  | lst xs => cases e; obtain ⟨a, ys, rfl, q, l⟩ := h; exact .base (.lst q)
  | kl xs => cases e; obtain ⟨a, ys, rfl, q, l⟩ := top_kl h; exact sqL_ty gd q
  | tup xs => cases e; obtain ⟨a, ys, rfl, q, l⟩ := top_tup h; exact .base (.tup (gd.sub _ _ q))
  | kt xs => cases e; obtain ⟨a, ys, rfl, q, l⟩ := top_kt h; exact sqT_ty gd q
  | dK xs => cases e; obtain ⟨a, ys, rfl, q, l⟩ := h; exact .base (.dK q)
  | dT xs => cases e; obtain ⟨a, ys, rfl, q, l⟩ := h; exact .base (.dT q)
  | ins c fs =>
    cases e
    have h : Rep Γ w.R w.F (.ins c fs) v := h
    rw [Rep] at h
    obtain ⟨a, dx, gs, rfl, q, _, _⟩ := h
    obtain ⟨u, b, z⟩ := hc c rfl
    obtain ⟨c1, c2, c3, c4, c5⟩ := O.cls c u b z
    exact .base (.ins (gd.sub _ _ q) c1 c2 c3 c4 c5)
  | _ => cases e
theorem isT_own {ow : Nat → Ty → Option Bool} {t u : Ty} {b : Bool} (e : isT ow t u = some b) : ∀ c, t = .ow c → ∃ u b, ow c u = some b := fun c h => by
  subst h
  exact ⟨u, b, e⟩
theorem okIsO {ow : Nat → Ty → Option Bool} (O : OwOk Γ ow) : CallOk Γ (isO ow) (rIsi Γ.K) := by
  intro w vs ds Q gd t q
  match ds, q with
  | [x, c], q =>
    obtain ⟨v, v', rfl, t1, t2⟩ := topL2 t
    simp only [isO] at q
    cases e1 : x.typ with
    | none => simp only [e1] at q; exact q.elim
    | some a =>
      cases e2 : c.asTy with
      | none => simp only [e1, e2] at q; exact q.elim
      | some u =>
        simp only [e1, e2] at q
        cases e3 : isT ow a u with
        | none => rw [e3] at q; exact q.elim
        | some b =>
          rw [e3] at q
          have rc : Rep Γ w.R w.F c v' := by cases c <;> first | exact t2 | cases e2
          obtain ⟨k1, k2⟩ := asTy_cls e2 rc
          exact ⟨v, v', _, _, b, rfl, k1, typ_of O gd e1 (isT_own e3) t1, kit_is O k2 e3, q.d gd rep_bl⟩
theorem asTys_cls {w : Wd} : ∀ {ds : List D} {ys : List V} {ts : List Ty}, asTys ds = some ts → RepL Γ w.R w.F ds ys → Paired ClsV ys (ts.map (·.val Γ)) ∧ ∀ t ∈ ts, t ∈ [Ty.int, .bl, .str, .lst, .tup, .dct] ∨ ∃ c, t = .ow c
  | [], ys, ts, e, h => by
    simp only [asTys, Option.some.injEq] at e
    subst e
    rw [RepL] at h
    subst h
    exact ⟨.nil, fun t ht => by cases ht⟩
  | d :: ds, ys, ts, e, h => by
    simp only [asTys] at e
    split at e
    · rename_i t ts' e1 e2
      cases e
      rw [RepL] at h
      obtain ⟨y, ys', rfl, r, l⟩ := h
      obtain ⟨k1, k2⟩ := asTy_cls e1 r
      obtain ⟨k3, k4⟩ := asTys_cls e2 l
      refine ⟨.cons k1 k3, fun t ht => ?_⟩
      rcases List.mem_cons.mp ht with z | z
      · subst z; exact k2
      · exact k4 t z
    · cases e
theorem kit_any {ow : Nat → Ty → Option Bool} (O : OwOk Γ ow) {t : Ty} : ∀ {us : List Ty} {b : Bool}, (∀ u ∈ us, u ∈ [Ty.int, .bl, .str, .lst, .tup, .dct] ∨ ∃ c, u = .ow c) → isAny ow t us = some b → PySem.W.kitAny Γ.K (t.val Γ) (us.map (·.val Γ)) = some b
  | [], b, _, e => by cases e; rfl
  | u :: us, b, hu, e => by
    simp only [isAny] at e
    cases e1 : isT ow t u with
    | none => simp only [e1] at e; cases e
    | some k =>
      simp only [e1] at e
      refine kitAny_cons (kit_is O (hu u (by simp)) e1) (fun z => ?_) fun z => ?_
      · subst z
        exact kit_any O (fun y hy => hu y (by simp [hy])) e
      · subst z
        cases e; rfl
theorem okIsM {ow : Nat → Ty → Option Bool} (O : OwOk Γ ow) : CallOk Γ (isM ow) (rIsiT Γ.K) := by
  intro w vs ds Q gd t q
  match ds, q with
  | [x, .tup cs], q =>
    obtain ⟨v, v', rfl, t1, t2⟩ := topL2 t
    simp only [isM] at q
    cases e1 : x.typ with
    | none => simp only [e1] at q; exact q.elim
    | some a =>
      cases e2 : asTys cs with
      | none => simp only [e1, e2] at q; exact q.elim
      | some us0 =>
        cases us0 with
        | nil => simp only [e1, e2] at q; exact q.elim
        | cons u us =>
          simp only [e1, e2] at q
          cases e3 : isAny ow a (u :: us) with
          | none => rw [e3] at q; exact q.elim
          | some b =>
            rw [e3] at q
            obtain ⟨tp, ys, rfl, hq, l⟩ := top_tup t2
            obtain ⟨k1, k2⟩ := asTys_cls e2 l
            refine ⟨v, tp, ys, _, _, b, rfl, gd.sub _ _ hq, k1, typ_of O gd e1 (fun c hc => ?_) t1, kit_any O k2 e3, q.d gd rep_bl⟩
            subst hc
            simp only [isAny] at e3
            cases e4 : isT ow (.ow c) u with
            | none => simp only [e4] at e3; cases e3
            | some k => exact ⟨u, k, e4⟩
end
end DV

/-! DVn: more built-in functions by data. -/
namespace DV
open PySem PySem.Spec PyProof.Rows L2

section
variable {Γ : Gm} {X : Cx}
def gInt : List D → Option Rv
  | [.int i] => some (.d (.int i))
  | [.bl b] => some (.d (.int (if b then 1 else 0)))
  | _ => none
theorem okInt : CallOk Γ gInt (fun xs H Q => (∃ i, xs = [.int i] ∧ Q (.int i) H) ∨ ∃ k, xs = [.bl k] ∧ Q (.int (if k then 1 else 0)) H) := by
  intro w vs ds Q gd t q
  match ds, q with
  | [.int i], q =>
    obtain ⟨v, rfl, t1⟩ := topL1 t
    obtain rfl := top_int t1
    exact .inl ⟨i, rfl, q.d gd rep_int⟩
  | [.bl i], q =>
    obtain ⟨v, rfl, t1⟩ := topL1 t
    obtain rfl := top_bl t1
    exact .inr ⟨i, rfl, q.d gd rep_int⟩
def gAbs : List D → Option Rv
  | [.int i] => some (.d (.int (if i < 0 then -i else i)))
  | _ => none
theorem okAbs : CallOk Γ gAbs (fun xs H Q => ∃ i, xs = [.int i] ∧ Q (.int (if i < 0 then -i else i)) H) := by
  intro w vs ds Q gd t q
  match ds, q with
  | [.int i], q =>
    obtain ⟨v, rfl, t1⟩ := topL1 t
    obtain rfl := top_int t1
    exact ⟨i, rfl, q.d gd rep_int⟩
def gBoolN : List D → Option Rv
  | [.int i] => some (.d (.bl (i != 0)))
  | [.bl b] => some (.d (.bl b))
  | _ => none
def gBoolL : List D → Option Rv
  | [.lst xs] => some (.d (.bl (!xs.isEmpty)))
  | [.kl xs] => some (.d (.bl (!xs.isEmpty)))
  | _ => none
def gBool : List D → Option Rv := fun ds => (gBoolN ds).or (gBoolL ds)
theorem okBoolN : CallOk Γ gBoolN (fun xs H Q => (∃ i, xs = [.int i] ∧ Q (.bl (i != 0)) H) ∨ ∃ k, xs = [.bl k] ∧ Q (.bl k) H) := by
  intro w vs ds Q gd t q
  match ds, q with
  | [.int i], q =>
    obtain ⟨v, rfl, t1⟩ := topL1 t
    obtain rfl := top_int t1
    exact .inl ⟨i, rfl, q.d gd rep_bl⟩
  | [.bl i], q =>
    obtain ⟨v, rfl, t1⟩ := topL1 t
    obtain rfl := top_bl t1
    exact .inr ⟨i, rfl, q.d gd rep_bl⟩
abbrev rBoolL (K : PySem.W.Frag) : List V → Hp → VK → Prop := fun xs H Q => ∃ (a : Addr) (zs : List V), xs = [.ref a] ∧ SqL K H a zs ∧ Q (.bl (!zs.isEmpty)) H
theorem okBoolL : CallOk Γ gBoolL (rBoolL Γ.K) := by
  intro w vs ds Q gd t q
  match ds, q with
  | [.lst xs], q =>
    obtain ⟨v, rfl, a, ys, rfl, h, l⟩ := topL1 t
    exact ⟨a, ys, rfl, SqL.of h, q.d gd (by rw [l.emp]; exact rep_bl)⟩
  | [.kl xs], q =>
    obtain ⟨v, rfl, t1⟩ := topL1 t
    obtain ⟨a, ys, rfl, h, l⟩ := top_kl t1
    exact ⟨a, ys, rfl, SqL.up gd.sub h, q.d gd (by rw [l.emp]; exact rep_bl)⟩
abbrev rBool (K : PySem.W.Frag) : List V → Hp → VK → Prop := fun xs H Q => ((∃ i, xs = [.int i] ∧ Q (.bl (i != 0)) H) ∨ ∃ k, xs = [.bl k] ∧ Q (.bl k) H) ∨ rBoolL K xs H Q
theorem crBool : CallR X (.type "bool") (rBool X.K) := CallR.or call_bool1 call_boolL
theorem okBool : CallOk Γ gBool (rBool Γ.K) := CallOk.or okBoolN okBoolL
def gStrI : List D → Option Rv
  | [.int i] => if i.natAbs.log2 < 1920 then some (.d (.str (toString i))) else none
  | _ => none
def gStrS : List D → Option Rv
  | [.str x] => some (.d (.str x))
  | _ => none
def gStr : List D → Option Rv := fun ds => (gStrI ds).or (gStrS ds)
theorem okStrI : CallOk Γ gStrI (fun xs H Q => ∃ i, xs = [.int i] ∧ i.natAbs.log2 < 1920 ∧ Q (.str (toString i)) H) := by
  intro w vs ds Q gd t q
  match ds, q with
  | [.int i], q =>
    obtain ⟨v, rfl, t1⟩ := topL1 t
    obtain rfl := top_int t1
    simp only [gStrI] at q
    split at q
    · exact ⟨i, rfl, by assumption, q.d gd rep_str⟩
    · exact q.elim
theorem okStrS : CallOk Γ gStrS (fun xs H Q => ∃ a, xs = [.str a] ∧ Q (.str a) H) := by
  intro w vs ds Q gd t q
  match ds, q with
  | [.str x], q =>
    obtain ⟨v, rfl, t1⟩ := topL1 t
    obtain rfl := top_str t1
    exact ⟨x, rfl, q.d gd rep_str⟩
abbrev rStr : List V → Hp → VK → Prop := fun xs H Q => (∃ i, xs = [.int i] ∧ i.natAbs.log2 < 1920 ∧ Q (.str (toString i)) H) ∨ ∃ a, xs = [.str a] ∧ Q (.str a) H
theorem crStr : CallR X (.type "str") rStr := CallR.or call_str_int SkE.call_str_str
theorem okStr : CallOk Γ gStr rStr := CallOk.or okStrI okStrS
/-! list(..), tuple(..) -/
def signsD (x : Str) : List D := x.cps.toList.map fun c => .str ⟨#[c]⟩
def gListQ : List D → Option Rv
  | [.lst xs] => some (.fr (.lst xs))
  | [.kl xs] => some (.fr (.lst xs))
  | [.tup xs] => some (.fr (.lst xs))
  | [.kt xs] => some (.fr (.lst xs))
  | _ => none
def gListS : List D → Option Rv
  | [.str x] => if x.length ≤ sizeLine then some (.fr (.lst (signsD x))) else none
  | _ => none
def gList : List D → Option Rv := fun ds => (gListQ ds).or (gListS ds)
abbrev rListQ (K : PySem.W.Frag) : List V → Hp → VK → Prop := fun xs H Q => ∃ p ys, xs = [.ref p] ∧ (SqL K H p ys ∨ SqT K H p ys) ∧ ∀ l, H l = none → Q (.ref l) (upd H l (.lst ys))
abbrev rListS : List V → Hp → VK → Prop := fun xs H Q => ∃ x : Str, xs = [.str x] ∧ x.length ≤ sizeLine ∧ ∀ l, H l = none → Q (.ref l) (upd H l (.lst (signsV x)))
theorem frLst {w : Wd} {Q : VK} {xs : List D} {ys : List V} (gd : Good w) (q : PQ Γ w Q (some (.fr (.lst xs)))) (l : RepL Γ w.R w.F xs ys) : ∀ p, w.H p = none → Q (.ref p) (upd w.H p (.lst ys)) := fun p hp => q.fr gd hp (fun ps z => nomatch z) (by rw [Own]; exact ⟨p, _, rfl, l, rfl⟩)
theorem okListQ : CallOk Γ gListQ (rListQ Γ.K) := by
  intro w vs ds Q gd t q
  match ds, q with
  | [.lst xs], q =>
    obtain ⟨v, rfl, a, ys, rfl, h, l⟩ := topL1 t
    exact ⟨a, ys, rfl, .inl (SqL.of h), frLst gd q l⟩
  | [.kl xs], q =>
    obtain ⟨v, rfl, t1⟩ := topL1 t
    obtain ⟨a, ys, rfl, h, l⟩ := top_kl t1
    exact ⟨a, ys, rfl, .inl (SqL.up gd.sub h), frLst gd q l⟩
  | [.tup xs], q =>
    obtain ⟨v, rfl, t1⟩ := topL1 t
    obtain ⟨a, ys, rfl, h, l⟩ := top_tup t1
    exact ⟨a, ys, rfl, .inr (SqT.of (gd.sub _ _ h)), frLst gd q l⟩
  | [.kt xs], q =>
    obtain ⟨v, rfl, t1⟩ := topL1 t
    obtain ⟨a, ys, rfl, h, l⟩ := top_kt t1
    exact ⟨a, ys, rfl, .inr (SqT.up gd.sub h), frLst gd q l⟩
theorem rep_signs {R : List Addr} {F : Hp} : ∀ cs : List Nat, RepL Γ R F (cs.map fun c => .str ⟨#[c]⟩) (cs.map fun c => .str ⟨#[c]⟩)
  | [] => by show RepL Γ R F [] []; rw [RepL]
  | c :: cs => by
    rw [List.map_cons, List.map_cons, RepL]
    exact ⟨_, _, rfl, rep_str, rep_signs cs⟩
theorem okListS : CallOk Γ gListS rListS := by
  intro w vs ds Q gd t q
  match ds, q with
  | [.str x], q =>
    obtain ⟨v, rfl, t1⟩ := topL1 t
    obtain rfl := top_str t1
    simp only [gListS] at q
    split at q
    · exact ⟨x, rfl, by assumption, frLst gd q (rep_signs _)⟩
    · exact q.elim
theorem crList (hc : X.calm = true) : CallR X (.type "list") (fun xs H Q => rListQ X.K xs H Q ∨ rListS xs H Q) := CallR.or call_list_of (call_list_text hc)
theorem okList : CallOk Γ gList (fun xs H Q => rListQ Γ.K xs H Q ∨ rListS xs H Q) := CallOk.or okListQ okListS
def gTup : List D → Option Rv
  | [.lst xs] => some (.d (.tup xs))
  | [.kl xs] => some (.d (.tup xs))
  | [.tup xs] => some (.d (.tup xs))
  | [.kt xs] => some (.d (.kt xs))
  | _ => none
theorem okTup : CallOk Γ gTup (fun xs H Q => ∃ p ys, xs = [.ref p] ∧ ((SqL Γ.K H p ys ∧ ∀ l, H l = none → Q (.ref l) (upd H l (.tup ys))) ∨ (SqT Γ.K H p ys ∧ Q (.ref p) H))) := by
  intro w vs ds Q gd t q
  have nw : ∀ (xs : List D) (ys : List V), PQ Γ w Q (some (.d (.tup xs))) → RepL Γ w.R w.F xs ys → ∀ l, w.H l = none → Q (.ref l) (upd w.H l (.tup ys)) := fun xs ys q l p hp => q.new gd hp (by
    rw [Rep]
    exact ⟨p, ys, rfl, upd_same, l.up ⟨⟨[], by simp⟩, updF_up (gd.none_of hp).1⟩⟩)
  match ds, q with
  | [.lst xs], q =>
    obtain ⟨v, rfl, a, ys, rfl, h, l⟩ := topL1 t
    exact ⟨a, ys, rfl, .inl ⟨SqL.of h, nw _ _ q l⟩⟩
  | [.kl xs], q =>
    obtain ⟨v, rfl, t1⟩ := topL1 t
    obtain ⟨a, ys, rfl, h, l⟩ := top_kl t1
    exact ⟨a, ys, rfl, .inl ⟨SqL.up gd.sub h, nw _ _ q l⟩⟩
  | [.tup xs], q =>
    obtain ⟨v, rfl, t1⟩ := topL1 t
    obtain ⟨a, ys, rfl, h, l⟩ := top_tup t1
    exact ⟨a, ys, rfl, .inr ⟨SqT.of (gd.sub _ _ h), q.d gd (by rw [Rep]; exact ⟨a, ys, rfl, h, l⟩)⟩⟩
  | [.kt xs], q =>
    obtain ⟨v, rfl, t1⟩ := topL1 t
    obtain ⟨a, ys, rfl, h, l⟩ := top_kt t1
    exact ⟨a, ys, rfl, .inr ⟨SqT.up gd.sub h, q.d gd (by rw [Rep]; exact ⟨a, ys, rfl, h, l⟩)⟩⟩
/-! all, any, sum, min, max of lists -/
def blsD : List D → Option (List Bool)
  | [] => some []
  | .bl b :: ds => (blsD ds).map (b :: ·)
  | _ => none
def intsD : List D → Option (List Int)
  | [] => some []
  | .int b :: ds => (intsD ds).map (b :: ·)
  | _ => none
def strsD : List D → Option (List Str)
  | [] => some []
  | .str b :: ds => (strsD ds).map (b :: ·)
  | _ => none
theorem blsD_of {R : List Addr} {F : Hp} : ∀ {ds : List D} {bs : List Bool} {ys : List V}, blsD ds = some bs → RepL Γ R F ds ys → ys = bs.map V.bl
  | [], bs, ys, e, h => by cases e; rw [RepL] at h; subst h; rfl
  | d :: ds, bs, ys, e, h => by
    rw [RepL] at h
    obtain ⟨y, r, rfl, q, l⟩ := h
    cases d with
    | bl b =>
      obtain ⟨cs, e1, rfl⟩ := Option.map_eq_some_iff.mp e
      rw [Rep] at q
      subst q
      rw [blsD_of e1 l]
      rfl
    | _ => cases e
theorem intsD_of {R : List Addr} {F : Hp} : ∀ {ds : List D} {bs : List Int} {ys : List V}, intsD ds = some bs → RepL Γ R F ds ys → ys = bs.map V.int
  | [], bs, ys, e, h => by cases e; rw [RepL] at h; subst h; rfl
  | d :: ds, bs, ys, e, h => by
    rw [RepL] at h
    obtain ⟨y, r, rfl, q, l⟩ := h
    cases d with
    | int b =>
      obtain ⟨cs, e1, rfl⟩ := Option.map_eq_some_iff.mp e
      rw [Rep] at q
      subst q
      rw [intsD_of e1 l]
      rfl
    | _ => cases e
theorem strsD_of {R : List Addr} {F : Hp} : ∀ {ds : List D} {bs : List Str} {ys : List V}, strsD ds = some bs → RepL Γ R F ds ys → ys = bs.map V.str
  | [], bs, ys, e, h => by cases e; rw [RepL] at h; subst h; rfl
  | d :: ds, bs, ys, e, h => by
    rw [RepL] at h
    obtain ⟨y, r, rfl, q, l⟩ := h
    cases d with
    | str b =>
      obtain ⟨cs, e1, rfl⟩ := Option.map_eq_some_iff.mp e
      rw [Rep] at q
      subst q
      rw [strsD_of e1 l]
      rfl
    | _ => cases e
def gAll : List D → Option Rv
  | [.lst xs] => (blsD xs).map fun bs => .d (.bl (bs.all id))
  | _ => none
def gAny : List D → Option Rv
  | [.lst xs] => (blsD xs).map fun bs => .d (.bl (bs.any id))
  | _ => none
def gSum : List D → Option Rv
  | [.lst xs] => (intsD xs).map fun bs => .d (.int bs.sum)
  | _ => none
theorem okAll : CallOk Γ gAll (rAll Γ.K) := by
  intro w vs ds Q gd t q
  match ds, q with
  | [.lst xs], q =>
    obtain ⟨v, rfl, a, ys, rfl, h, l⟩ := topL1 t
    simp only [gAll] at q
    cases e : blsD xs with
    | none => rw [e] at q; exact q.elim
    | some bs =>
      rw [e] at q
      obtain rfl := blsD_of e l
      exact ⟨a, bs, rfl, SqL.of h, q.d gd rep_bl⟩
theorem okAny : CallOk Γ gAny (rAny Γ.K) := by
  intro w vs ds Q gd t q
  match ds, q with
  | [.lst xs], q =>
    obtain ⟨v, rfl, a, ys, rfl, h, l⟩ := topL1 t
    simp only [gAny] at q
    cases e : blsD xs with
    | none => rw [e] at q; exact q.elim
    | some bs =>
      rw [e] at q
      obtain rfl := blsD_of e l
      exact ⟨a, bs, rfl, SqL.of h, q.d gd rep_bl⟩
theorem okSum : CallOk Γ gSum (rSum Γ.K) := by
  intro w vs ds Q gd t q
  match ds, q with
  | [.lst xs], q =>
    obtain ⟨v, rfl, a, ys, rfl, h, l⟩ := topL1 t
    simp only [gSum] at q
    cases e : intsD xs with
    | none => rw [e] at q; exact q.elim
    | some bs =>
      rw [e] at q
      obtain rfl := intsD_of e l
      exact ⟨a, bs, rfl, SqL.of h, q.d gd rep_int⟩
/-! len(set(xs)) -/
def D.itemsL : D → Option (List D)
  | .lst xs => some xs
  | .kl xs => some xs
  | _ => none
def cLenSet (c : M Rv) : M Rv := fun ρ S => (c ρ S).bind fun r ρ S => match (cont ρ S r).bind D.itemsL with
  | some xs => (match keysD xs with
    | some ks => if ks.length + 1 < scanBound then .ok (.d (.int (metK ks ks.length).length)) ρ S false else .bad
    | none => .bad)
  | none => .bad
theorem pm_lenSet {W : WX} {a : Expr} {c : M Rv} {p p2 q pos : Pos} (hK : Γ.K = X.K) (hc : X.calm = true) (hg : Gl X "len") (hm : X.mg "len" = none) (hg2 : Gl X "set") (hm2 : X.mg "set" = none) (ha : PE X a (tM Γ W c)) (na : starEach [a] X.env = (false, eval a X.env) :: starEach [] X.env) :
    PE X (.Call (.Name "len" p) [.Call (.Name "set" p2) [a] [] q] [] pos) (tM Γ W (cLenSet c)) :=
  (pe_lenSetK hc hg hm hg2 hm2 ha na).imp fun σ H Q ⟨F, E, C, R, ρ, S, rel, ck⟩ => ⟨F, E, C, R, ρ, S, rel, CK.bind ck fun r ρ1 S1 w1 v1 x1 rel1 o1 ck1 => by
    cases e1 : cont ρ1 S1 r with
    | none => simp only [e1] at ck1; exact ck1.elim
    | some d =>
      have tp := rel1.top o1 e1
      simp only [e1, Option.bind_some] at ck1
      have fin : ∀ (a : Addr) (xs : List D) (ys : List V), v1 = .ref a → SqL Γ.K w1.H a ys → RepL Γ w1.R w1.F xs ys → (CK Γ W w1 σ Q (match keysD xs with
          | some ks => if ks.length + 1 < scanBound then .ok (.d (.int (metK ks ks.length).length)) ρ1 S1 false else .bad
          | none => .bad)) → rLenSet X.K v1 w1.H Q := fun a xs ys ev hs l ck => by
        cases e2 : keysD xs with
        | none => rw [e2] at ck; exact ck.elim
        | some ks =>
          simp only [e2] at ck
          split at ck
          · rename_i hl
            obtain rfl := keysD_of e2 l
            exact ⟨a, ks, ev, by rw [← hK]; exact hs, hl, ck w1 _ (.refl _) (fun _ => rfl) rel1 (show Rep Γ w1.R w1.F (.int _) _ from rep_int)⟩
          · exact ck.elim
      cases d with
      | lst xs =>
        obtain ⟨a, ys, ev, q, l⟩ := tp
        exact fin a xs ys ev (SqL.of q) l ck1
      | kl xs =>
        obtain ⟨a, ys, ev, q, l⟩ := top_kl tp
        exact fin a xs ys ev (SqL.up rel1.good.sub q) l ck1
      | _ => exact ck1.elim⟩
/-! methods of texts -/
def gJoin : D → List D → Option Rv
  | .str a, [y] => (y.items.bind strsD).bind fun ys => if (ys.map (·.length)).sum + ys.length * a.length ≤ 16777216 then some (.d (.str (Txt.join a ys))) else none
  | _, _ => none
theorem okJoin : MtOk Γ gJoin (fun x xs H Q => ∃ a p, ∃ ys : List Str, x = .str a ∧ xs = [.ref p] ∧ (SqL Γ.K H p (ys.map V.str) ∨ SqT Γ.K H p (ys.map V.str)) ∧
    (ys.map (·.length)).sum + ys.length * a.length ≤ 16777216 ∧ Q (.str (Txt.join a ys)) H) := by
  intro w v d vs ds Q gd tv t q
  match d, ds, q with
  | .str a, [y], q =>
    obtain rfl := top_str tv
    obtain ⟨v, rfl, t1⟩ := topL1 t
    simp only [gJoin] at q
    cases e : y.items with
    | none => rw [e] at q; exact q.elim
    | some xs =>
      rw [e, Option.bind_some] at q
      cases e2 : strsD xs with
      | none => rw [e2] at q; exact q.elim
      | some ys =>
        rw [e2, Option.bind_some] at q
        split at q
        · rename_i hl
          obtain ⟨p, zs, rfl, hs, l⟩ := top_seq gd e t1
          obtain rfl := strsD_of e2 l
          exact ⟨a, p, ys, rfl, rfl, hs, hl, q.d gd rep_str⟩
        · exact q.elim
end
end DV

/-! DVo: comparisons as tests, minus, how calls bind, the facts of a program's top, the law's end. -/
namespace DV
open PySem PySem.Spec PyProof.Rows L2

/-! ### comparisons as tests -/
def cTst (c : M Rv) : M Bool := fun ρ S => (c ρ S).bind fun r ρ S => match r with
  | .d (.bl b) => .ok b ρ S false
  | _ => .bad
section
variable {X : Cx} {Γ : Gm} {W : WX} {a b c e : Expr} {ca cb cc : M Rv} {pos : Pos}
theorem tst_core {c : M Rv} {σ : L2.St} {H : Hp} {Q : Bool → Hp → Prop} (h : tMb Γ W (cTst c) σ H Q) : tM Γ W c σ H (fun x H' => ∃ k, x = .bl k ∧ Q k H') := by
  obtain ⟨F, E, C, R, ρ, S, rel, ck⟩ := h
  refine ⟨F, E, C, R, ρ, S, rel, ?_⟩
  unfold cTst at ck
  cases q : c ρ S with
  | ok r ρ1 S1 t =>
    rw [q] at ck
    intro w1 v x1 e1 r1 o1
    rw [Res.bind_ok] at ck
    have ck1 := CKb.ext x1 e1 ck
    cases r with
    | d d0 =>
      cases d0 with
      | bl k =>
        have o1 : Rep Γ w1.R w1.F (.bl k) v := o1
        rw [Rep] at o1
        exact ⟨k, o1, ck1 w1 (.refl _) (fun _ => rfl) r1⟩
      | _ => exact ck1.elim
    | _ => exact ck1.elim
  | ex y ρ1 S1 => rw [q] at ck; exact ck
  | bad => rw [q] at ck; exact ck
theorem pmt_cmp {op : CmpOp} {g : D → D → Option Rv} {r : R2} (ho : OpR X (compareOp op) r) (hg : BinOk Γ g r) (ha : PE X a (tM Γ W ca)) (hb : PE X b (tM Γ W cb)) (hm : behindInMarks op b = false) : PT X (.Compare a [op] [b] pos) (tMb Γ W (cTst (cBin g ca cb))) :=
  (pt_cmpR ho ha hb hm).imp fun _ _ _ h => bin_core hg (tst_core h)
theorem pmt_chain {op op' : CmpOp} {g g' : D → D → Option Rv} {r r' : R2} (ho : OpR X (compareOp op) r) (ho' : OpR X (compareOp op') r') (hg : BinOk Γ g r) (hg' : BinOk Γ g' r')
    (ha : PE X a (tM Γ W ca)) (hb : PE X b (tM Γ W cb)) (hc : PE X c (tM Γ W cc)) (hm : lastMarks [op, op'] [b, c] = false) : PT X (.Compare a [op, op'] [b, c] pos) (tMb Γ W (cTst (cChain g g' ca cb cc))) :=
  (pt_chain ho ho' ha hb hc hm).imp fun _ _ _ h => chain_core hg hg' (tst_core h)
def cNeg (c : M Rv) : M Rv := fun ρ S => (c ρ S).bind fun r ρ S => match cont ρ S r with
  | some (.int i) => .ok (.d (.int (-i))) ρ S false
  | _ => .bad
theorem pm_neg (ha : PE X a (tM Γ W ca)) : PE X (.UnaryOp .USub a pos) (tM Γ W (cNeg ca)) :=
  (pe_un un_neg ha).imp fun σ H Q ⟨F, E, C, R, ρ, S, rel, ck⟩ => ⟨F, E, C, R, ρ, S, rel, CK.bind ck fun r ρ1 S1 w1 v1 x1 rel1 o1 ck1 => by
    cases e1 : cont ρ1 S1 r with
    | none => simp only [e1] at ck1; exact ck1.elim
    | some d =>
      have tp := rel1.top o1 e1
      simp only [e1] at ck1
      cases d with
      | int i => exact ⟨i, top_int tp, ck1 w1 (.int (-i)) (.refl _) (fun _ => rfl) rel1 (show Rep Γ w1.R w1.F (.int (-i)) _ from rep_int)⟩
      | _ => exact ck1.elim⟩
end

/-! ### how calls bind -/
def pick {α : Type} (is : List Nat) (xs : List α) : List α := is.filterMap fun i => xs[i]?
theorem pick_len {α : Type} {xs : List α} : ∀ {is : List Nat}, (∀ i ∈ is, i < xs.length) → (pick is xs).length = is.length
  | [], _ => rfl
  | i :: is, h => by
    have hi : i < xs.length := h i (by simp)
    have e : xs[i]? = some (xs[i]'hi) := List.getElem?_eq_getElem hi
    have ih := pick_len (xs := xs) (is := is) fun j hj => h j (by simp [hj])
    unfold pick at ih ⊢
    rw [List.filterMap_cons, e, List.length_cons, List.length_cons, ih]
theorem vals_pick {vs : List V} {us : List Value} (r : Vals vs us) : ∀ is : List Nat, Vals (pick is vs) (pick is us)
  | [] => .nil
  | i :: is => by
    unfold pick
    rw [List.filterMap_cons, List.filterMap_cons]
    cases e : vs[i]? with
    | none =>
      have e2 : us[i]? = none := by
        rw [List.getElem?_eq_none_iff] at e ⊢
        rw [← r.length]
        exact e
      rw [e2]
      exact vals_pick r is
    | some v =>
      obtain ⟨u, e2, ru⟩ := r.get e
      rw [e2]
      exact .cons ru (vals_pick r is)
theorem RepL.pick {Γ : Gm} {R : List Addr} {F : Hp} {ds : List D} {vs : List V} (l : RepL Γ R F ds vs) : ∀ is : List Nat, RepL Γ R F (DV.pick is ds) (DV.pick is vs)
  | [] => by show RepL Γ R F [] []; rw [RepL]
  | i :: is => by
    unfold DV.pick
    rw [List.filterMap_cons, List.filterMap_cons]
    cases e : ds[i]? with
    | none =>
      have e2 : vs[i]? = none := by
        rw [List.getElem?_eq_none_iff] at e ⊢
        rw [← l.length]
        exact e
      rw [e2]
      exact l.pick is
    | some d =>
      obtain ⟨v, e2, r⟩ := l.get e
      rw [e2, RepL]
      exact ⟨v, _, rfl, r, l.pick is⟩
section
variable {Γ : Gm} {K : PySem.W.Frag} {x qual : Str} {params : Arguments} {body : List Stmt} {scope : Scope} {dvs : List V} {kws : List (Str × V)} {f : Addr} {fd : FuncData} {ps : List Str}
/-- no default is used -/
theorem cb_N (F : FunD K x qual params body scope [] kws f fd) (n : Nat) (ks : List Str) (ix : List Nat) (hl : ix.length = ps.length) (hi : ∀ i ∈ ix, i < n + ks.length)
    (h : ∀ (kV doc pm : Value) (an : Option Addr) (cdv ct : Value) (us ws : List Value), us.length = n → ws.length = ks.length → bindArgs (PySem.W.fnOf x qual params body scope .none kV doc pm an cdv ct) ⟨us, ks.zip ws⟩ = pure (ps.zip (pick ix (us ++ ws)))) :
    CallB Γ K fd ps n ks (fun ds es => pick ix (ds ++ es)) := by
  obtain ⟨oc, od, dV, kV, doc, pm, an, cdv, ct, osl, rfl, lk, hcd, hD, hK⟩ := F.ex
  rcases hD with ⟨_, rfl⟩ | ⟨e, _⟩
  · refine ⟨fun us ws => pick ix (us ++ ws), fun vs zs => pick ix (vs ++ zs), ⟨fun s us ws X l1 l2 => .of_eq (h kV doc pm an cdv ct us ws l1 l2), fun r1 r2 => vals_pick (r1.append r2) ix⟩, fun R F ds vs es zs l1 l2 n1 n2 => ⟨(l1.app l2).pick ix, ?_⟩⟩
    rw [pick_len, hl]
    intro i hx
    rw [List.length_append, l1.length, l2.length, n1, n2]
    exact hi i hx
  · exact absurd rfl e
/-- positional defaults -/
theorem cb_D (F : FunD K x qual params body scope dvs kws f fd) (hd : dvs ≠ []) (dD : List D) (hD : ∀ R F, RepL Γ R F dD dvs) (n : Nat) (ks : List Str) (ix : List Nat) (hl : ix.length = ps.length) (hi : ∀ i ∈ ix, i < n + ks.length + dvs.length)
    (h : ∀ (T : Addr) (kV doc pm : Value) (an : Option Addr) (cdv ct : Value) (us ws its : List Value), us.length = n → ws.length = ks.length → its.length = dvs.length →
      ∃ k, bindArgs (PySem.W.fnOf x qual params body scope (.ref T) kV doc pm an cdv ct) ⟨us, ks.zip ws⟩ = seqItems? (.ref T) >>= k ∧ k (some its.toArray) = pure (ps.zip (pick ix (us ++ ws ++ its)))) :
    CallB Γ K fd ps n ks (fun ds es => pick ix (ds ++ es ++ dD)) := by
  obtain ⟨oc, od, dV, kV, doc, pm, an, cdv, ct, osl, rfl, lk, hcd, hV, hK⟩ := F.ex
  rcases hV with ⟨e, _⟩ | ⟨_, T, o, its, m, rfl, lT, oT, rT⟩
  · exact absurd e hd
  · refine ⟨fun us ws => pick ix (us ++ ws ++ its), fun vs zs => pick ix (vs ++ zs ++ dvs), ⟨fun s us ws X l1 l2 => ?_, fun r1 r2 => vals_pick ((r1.append r2).append rT) ix⟩, fun R F ds vs es zs l1 l2 n1 n2 => ⟨((l1.app l2).app (hD R F)).pick ix, ?_⟩⟩
    · obtain ⟨k, e1, e2⟩ := h T kV doc pm an cdv ct us ws its l1 l2 rT.length.symm
      refine BindsTo.of_looks fun M => ?_
      rw [e1]
      exact looks_items X lT oT (.of_pure e2)
    · rw [pick_len, hl]
      intro i hx
      rw [List.length_append, List.length_append, l1.length, l2.length, n1, n2, (hD R F).length]
      exact hi i hx
/-- keyword-only defaults: ms are not written -/
theorem cb_K (F : FunD K x qual params body scope [] kws f fd) (n : Nat) (ks : List Str) (ms : List (Str × V)) (hk : kws ≠ []) (hms : ∀ q ∈ ms, q ∈ kws) (mD : List D) (hD : ∀ R F, RepL Γ R F mD (ms.map (·.2))) (ix : List Nat) (hl : ix.length = ps.length) (hi : ∀ i ∈ ix, i < n + ks.length + ms.length)
    (h : ∀ (D : Addr) (doc pm : Value) (an : Option Addr) (cdv ct : Value) (us ws mv : List Value), us.length = n → ws.length = ks.length → mv.length = ms.length →
      KwChain D ((ms.map (·.1)).zip mv) (bindArgs (PySem.W.fnOf x qual params body scope .none (.ref D) doc pm an cdv ct) ⟨us, ks.zip ws⟩) (ps.zip (pick ix (us ++ ws ++ mv)))) :
    CallB Γ K fd ps n ks (fun ds es => pick ix (ds ++ es ++ mD)) := by
  obtain ⟨oc, od, dV, kV, doc, pm, an, cdv, ct, osl, rfl, lk, hcd, hV, hK⟩ := F.ex
  rcases hV with ⟨_, rfl⟩ | ⟨e, _⟩
  · rcases hK with e | ⟨D, rfl, hq⟩
    · exact absurd e hk
    · obtain ⟨mv, hlv, rk, hks⟩ := kwd_vals (ms := ms) fun q hm => hq q (hms q hm)
      refine ⟨fun us ws => pick ix (us ++ ws ++ mv), fun vs zs => pick ix (vs ++ zs ++ ms.map (·.2)), ⟨fun s us ws X l1 l2 => BindsTo.of_looks fun M => KwChain.looks X hks (h D doc pm an cdv ct us ws mv l1 l2 hlv), fun r1 r2 => vals_pick ((r1.append r2).append rk) ix⟩,
        fun R F ds vs es zs l1 l2 n1 n2 => ⟨((l1.app l2).app (hD R F)).pick ix, ?_⟩⟩
      rw [pick_len, hl]
      intro i hx
      rw [List.length_append, List.length_append, l1.length, l2.length, n1, n2, (hD R F).length, List.length_map]
      exact hi i hx
  · exact absurd rfl e
end
/-- a def that is never reached -/
theorem fn_zero {Γ : Gm} {P : Program} {w : World} {K : PySem.W.Frag} {mg : Str → Option Value} {base : Heap} {f : Addr} {fd : FuncData} {ps : List Str} {CX : CXT} {k : Nat} : FnOk P w K mg base CX k f fd ps (spM Γ ps.length (fun _ _ => .bad)) :=
  ⟨fun vs H Q E h => (show vs.length = ps.length ∧ _ from h).1, fun A outer s H args us vs Q E hr e0 hb r h => by
    obtain ⟨_, F, C, R, S, ds, _, _, fk⟩ := h
    exact fk.elim⟩
end DV

/-! DVp: each operator with all its readings; names of a program's top; the facts of the top; the law's end. -/
namespace DV
open PySem PySem.Spec PyProof.Rows L2

section
variable {X : Cx} {Γ : Gm}
abbrev rAddAll (K : PySem.W.Frag) : R2 := fun x y H Q => rI0 (fun i j => .int (i + j)) x y H Q ∨ ((∃ i j, x = .str i ∧ y = .str j ∧ i.length + j.length ≤ sizeLine ∧ Q (.str (i ++ j)) H) ∨ (rCat x y H Q ∨ rCatT K x y H Q))
theorem opAdd : OpR X (binaryOp .Add) (rAddAll X.K) := OpR.or op_add (OpR.or op_add_str (OpR.or op_cat op_catT))
theorem bAdd : BinOk Γ oAdd (rAddAll X.K) := BinOk.or bAddI (BinOk.or bAddS (BinOk.or bAddL bAddT))
abbrev rMulAll : R2 := fun x y H Q => (rI CMul (fun i j => .int (i * j)) x y H Q ∨ rI CMulW (fun i j => .int (i * j)) x y H Q) ∨ rRep x y H Q
theorem opMul : OpR X (binaryOp .Mult) rMulAll := OpR.or (OpR.or op_mul op_mulW) op_rep
theorem bMul : BinOk Γ oMul rMulAll := BinOk.or bMulI bMulL
abbrev rEqAll (K : PySem.W.Frag) : R2 := fun x y H Q => rEq x y H Q ∨ rEqD K x y H Q
abbrev rNeAll (K : PySem.W.Frag) : R2 := fun x y H Q => rNe x y H Q ∨ rNeD K x y H Q
theorem opEq (hu : X.A.units + 64 < cLine) : OpR X (compareOp .Eq) (rEqAll X.K) := OpR.or op_eq (op_eqD hu)
theorem opNe (hu : X.A.units + 64 < cLine) : OpR X (compareOp .NotEq) (rNeAll X.K) := OpR.or op_ne (op_neD hu)
theorem bEq : BinOk Γ (oEq false) (rEqAll Γ.K) := BinOk.or bEqS bEqD
theorem bNe : BinOk Γ (oEq true) (rNeAll Γ.K) := BinOk.or bNeS bNeD
abbrev rInAll (K : PySem.W.Frag) (neg : Bool) : R2 := fun x y H Q => rIn K neg x y H Q ∨ ((∃ i j, x = .str i ∧ y = .str j ∧ Q (.bl (if neg = true then !(!(Builtin.Str.occurrences j i 0 j.length 1).isEmpty) else !(Builtin.Str.occurrences j i 0 j.length 1).isEmpty)) H) ∨ DV.rInD neg x y H Q)
theorem opIn (hu : X.A.units + 1 < cLine) : OpR X (compareOp .In) (rInAll X.K false) := OpR.or op_in_seq (OpR.or op_in_str (DV.op_inD hu))
theorem opNotIn (hu : X.A.units + 1 < cLine) : OpR X (compareOp .NotIn) (rInAll X.K true) := OpR.or op_notIn_seq (OpR.or op_notIn_str (DV.op_notInD hu))
theorem bIn : BinOk Γ (oIn false) (rInAll Γ.K false) := BinOk.or (bInL false) (BinOk.or bInS (bInD false))
theorem bNotIn : BinOk Γ (oIn true) (rInAll Γ.K true) := BinOk.or (bInL true) (BinOk.or bNotInS (bInD true))
abbrev rIsAll : R2 := fun x y H Q => (y = .non ∧ Q (.bl (decide (x = .non))) H) ∨ rIsB x y H Q
abbrev rIsNotAll : R2 := fun x y H Q => (y = .non ∧ Q (.bl (!decide (x = .non))) H) ∨ rNotB x y H Q
theorem opIs : OpR X (compareOp .Is) rIsAll := OpR.or op_isN op_isBl
theorem opIsNot : OpR X (compareOp .IsNot) rIsNotAll := OpR.or op_notN op_notBl
theorem bIs : BinOk Γ (oIs false) rIsAll := BinOk.or bIsN bIsB
theorem bIsNot : BinOk Γ (oIs true) rIsNotAll := BinOk.or bNotN bNotB
/-- y[x] -/
def oGet : D → D → Option Rv := fun y x => (oIx y x).or (oIxD y x)
abbrev rGetAll (K : PySem.W.Frag) : R2 := fun x y H Q => rIx K x y H Q ∨ DV.rIxD x y H Q
theorem ixAll (hu : X.A.units + 1 < cLine) : IxR X (rGetAll X.K) := IxR.or ix_seq (ix_dict hu)
theorem bGet : BinOk Γ oGet (rGetAll Γ.K) := BinOk.or bIx bIxD
/-- slices -/
def oSlS : D → Option Int → Option Int → Option Rv
  | .str z, lo, hi => if z.length ≤ sizeLine then some (.d (.str (cutS z lo hi))) else none
  | _, _, _ => none
theorem bSlS : SlOk Γ oSlS rSlS := by
  intro w v d lo hi Q gd t q
  cases d with
  | str z =>
    simp only [oSlS] at q
    split at q
    · exact ⟨z, top_str t, by assumption, q.d gd rep_str⟩
    · exact q.elim
  | _ => exact q.elim
def oCut : D → Option Int → Option Int → Option Rv := fun d lo hi => (oSl d lo hi).or (oSlS d lo hi)
abbrev rCutAll (K : PySem.W.Frag) : V → Option Int → Option Int → Hp → VK → Prop := fun x lo hi H Q => rSlL K x lo hi H Q ∨ rSlS x lo hi H Q
theorem slAll : SlR X (rCutAll X.K) := SlR.or sl_list sl_str
theorem bCut : SlOk Γ oCut (rCutAll Γ.K) := SlOk.or bSlL bSlS
end

/-! ### names of the top -/
section
variable {X : Cx} {Γ : Gm} {W : WX} {x : Str} {pos : Pos}
theorem pm_gI {i : Int} (hm : ∃ t, X.mg x = some (.int i t)) (hg : Gl X x) (hd : (x == ("__debug__" : Str)) = false) : PE X (.Name x pos) (tM Γ W (cC (.int i))) := by
  obtain ⟨t, hm⟩ := hm
  exact pm_glob (v := .int i) (fun _ _ => rep_int) hg hm ⟨t, rfl⟩ hd
theorem pm_gS {z : Str} (hm : ∃ t, X.mg x = some (.str z t)) (hg : Gl X x) (hd : (x == ("__debug__" : Str)) = false) : PE X (.Name x pos) (tM Γ W (cC (.str z))) := by
  obtain ⟨t, hm⟩ := hm
  exact pm_glob (v := .str z) (fun _ _ => rep_str) hg hm ⟨t, rfl⟩ hd
theorem pm_gO {d : D} {a : Addr} (hm : X.mg x = some (.ref a)) (hr : ∀ R F, Rep Γ R F d (.ref a)) (hg : Gl X x) (hd : (x == ("__debug__" : Str)) = false) : PE X (.Name x pos) (tM Γ W (cC d)) :=
  pm_glob (v := .ref a) hr hg hm rfl hd
theorem pm_gT {n : String} (hm : X.mg x = none) (hv : bootBuiltins x = some (.type n)) (hg : Gl X x) (hn : x ≠ "__name__") (hd : (x == ("__debug__" : Str)) = false) : PE X (.Name x pos) (tM Γ W (cC (.ty n))) :=
  pm_bltn (v := .ty n) (fun _ _ => by rw [Rep]) hg hm hv rfl hn hd
/-- a tuple of the top, a list of the top -/
theorem rep_kt {a : Addr} {ds : List D} {vs : List V} (h : ∀ H, SqT Γ.K H a vs) (l : ∀ R F, RepL Γ R F ds vs) : ∀ R F, Rep Γ R F (.kt ds) (.ref a) := fun R F => by
  rw [Rep]
  exact ⟨a, vs, rfl, h F, l R F⟩
theorem rep_kl {a : Addr} {ds : List D} {vs : List V} (h : ∀ H, SqL Γ.K H a vs) (l : ∀ R F, RepL Γ R F ds vs) : ∀ R F, Rep Γ R F (.kl ds) (.ref a) := fun R F => by
  rw [Rep]
  exact ⟨a, vs, rfl, h F, l R F⟩
theorem repL_nil {R : List Addr} {F : Hp} : RepL Γ R F [] [] := by rw [RepL]
theorem repL_cons {R : List Addr} {F : Hp} {d : D} {v : V} {ds : List D} {vs : List V} (h : Rep Γ R F d v) (l : RepL Γ R F ds vs) : RepL Γ R F (d :: ds) (v :: vs) := by rw [RepL]; exact ⟨v, vs, rfl, h, l⟩
theorem takes0 : Takes X W0 := fun _ _ ⟨_, _, _, _, _, _, _, _, _, _, _, _, _, _, _, _, h⟩ => h.elim
end

/-! ### the facts of the top, read by a hook -/
def obsX (chk : PySem.W.Frag → Bool) (fn : List He.DefD) (K : PySem.W.Frag) : He.AlD := (chk K && fn.all fun d => d.ok K, fn.map fun d => He.fnW K d.at_)
def SaysX (chk : PySem.W.Frag → Bool) (fn : List He.DefD) (K : PySem.W.Frag) : Prop := obsX chk fn K = He.valD fn
def obsXG (n : Nat) (chk : PySem.W.Frag → Bool) (fn : List He.DefD) (g : Addr → Option Obj) : He.AlD := obsX chk fn (He.frG g (He.asD g n))
def hookX (n : Nat) (chk : PySem.W.Frag → Bool) (fn : List He.DefD) : PySem.W.Hook where
  α := He.AlD
  obs := fun s => obsXG n chk fn s.heap.get?
  val := fun _ => He.valD fn
  says := fun _ h => ∃ K : PySem.W.Frag, K.In h ∧ SaysX chk fn K
  of := fun _ _ e => ⟨_, He.frG_in, e⟩
  keeps := fun _ _ _ ⟨K, hK, c⟩ k => ⟨K, PySem.W.Frag.In.keeps hK k, c⟩
theorem obsXG_eq {n : Nat} {chk : PySem.W.Frag → Bool} {fn : List He.DefD} {g : Addr → Option Obj} {s : Shared} (h : ∀ a, g a = s.heap.get? a) : obsXG n chk fn g = (hookX n chk fn).obs s := by
  have e : g = s.heap.get? := funext h
  rw [e] <;> rfl
theorem SaysX.chk {chk : PySem.W.Frag → Bool} {fn : List He.DefD} {K : PySem.W.Frag} (c : SaysX chk fn K) : chk K = true := (He.ba (show (chk K && fn.all fun d => d.ok K) = true from congrArg (fun z : He.AlD => z.1) c)).1
theorem SaysX.fn {chk : PySem.W.Frag → Bool} {fn : List He.DefD} {K : PySem.W.Frag} (c : SaysX chk fn K) (i : Nat) {d : He.DefD} (h : fn[i]? = some d) : ∃ fd, FunD K d.name d.qual d.params d.body d.scope (d.dvs K) (d.kws K) (He.fAd K d.at_) fd := by
  have c2 := (He.ba (show (chk K && fn.all fun d => d.ok K) = true from congrArg (fun z : He.AlD => z.1) c)).2
  have e : fn.map (fun d => He.fnW K d.at_) = fn.map He.DefD.val := congrArg (fun z : He.AlD => z.2) c
  have e2 : (fn.map fun d => He.fnW K d.at_)[i]? = (fn.map He.DefD.val)[i]? := by rw [e]
  rw [List.getElem?_map, List.getElem?_map, h] at e2
  exact He.DefD.funD (Option.some.inj e2) (List.all_eq_true.mp c2 d (List.mem_of_getElem? h))
/-- what the law's mirror owes: of every script of at most n numbers it gives True -/
theorem law_sp {Γ : Gm} {n : Nat} {m : List D → List Sl → Res Rv} (hm : ∀ ns : List Int, ns.length ≤ n → ∃ ρ S t, m [.kl (ns.map .int)] [] = .ok (.d (.bl true)) ρ S t) (H : Hp) (a : Addr) (ns : List Int) (hl : ns.length ≤ n) (hS : SqL Γ.K H a (ns.map V.int)) :
    spM Γ 1 m [.ref a] H (fun v _ => v = .bl true) fun _ _ _ => False := by
  obtain ⟨ρ, S, t, e⟩ := hm ns hl
  refine ⟨rfl, H, [], [], [], [.kl (ns.map .int)], ⟨⟨fun _ _ h => h, fun p hp => by simp at hp, by simp⟩, rfl, ⟨rfl, rfl⟩⟩, ?_, ?_⟩
  · refine repL_cons ?_ repL_nil
    rw [Rep]
    refine ⟨a, _, rfl, hS, ?_⟩
    clear hS e hl
    induction ns with
    | nil => exact repL_nil
    | cons i r ih => exact repL_cons rep_int ih
  · rw [e]
    exact fun w' v x' h' ok => by
      have ok : Rep Γ w'.R w'.F (.bl true) v := ok
      rw [Rep] at ok
      exact ok
theorem cx_never {P : Program} {w : World} (H : Hp) (s : Shared) (e : Value) (s' : Shared) : L2.CX P w [] H s (fun _ _ _ => False) e s' → False := by
  rintro ⟨_, _, _, _, _, _, _, _, _, _, _, _, h⟩
  exact h
section
variable {X : Cx} {Γ : Gm} {W : WX} {k : Nat} {f : Addr} {fd : FuncData} {ps : List Str} {x : Str} {p pos : Pos} {e : Expr} {es : List Expr} {kws : List Keyword} {cs ck : M (List D)} {m : List D → List Sl → Res Rv} {gD : List D → List D → List D}
theorem pm_callJ {n j : Nat} (ks : List Str) (hj : ks.length = j) (F : FnOk X.prog X.w X.K X.mg X.base (L2.CX X.prog X.w) k f fd ps (spM Γ ps.length m)) (hr : Room k X.A) (hg : Gl X x) (hm : X.mg x = some (.ref f)) (hk : PySem.W.keepIn X.K (.ref f) = true) (hb : CallB Γ X.K fd ps n ks gD) (tk : Takes X W)
    (ha : PA X (e :: es) (tMl Γ W cs)) (hkw : PK X kws (tMl Γ W ck)) (hall : (backToKw pos (keywordEach kws X.env)).all (·.1.isSome) = true) (hks : (backToKw pos (keywordEach kws X.env)).filterMap (·.1) = ks)
    (hdb : (x == ("__debug__" : Str)) = false) (he : starEach (e :: es) X.env = (false, eval e X.env) :: starEach es X.env)
    (hpl : ((backTo pos (starEach (e :: es) X.env)).any (·.1) || (backToKw pos (keywordEach kws X.env)).any (·.1.isNone)) = false) :
    PE X (.Call (.Name x p) (e :: es) kws pos) (tM Γ W (cCall m n j gD cs ck)) := by
  subst hj
  exact pm_call F hr hg hm hk hb tk ha hkw hall hks hdb he hpl
theorem pm_callJ0 {j : Nat} (ks : List Str) (hj : ks.length = j) (F : FnOk X.prog X.w X.K X.mg X.base (L2.CX X.prog X.w) k f fd ps (spM Γ ps.length m)) (hr : Room k X.A) (hg : Gl X x) (hm : X.mg x = some (.ref f)) (hk : PySem.W.keepIn X.K (.ref f) = true) (hb : CallB Γ X.K fd ps 0 ks gD) (tk : Takes X W)
    (hkw : PK X kws (tMl Γ W ck)) (hall : (backToKw pos (keywordEach kws X.env)).all (·.1.isSome) = true) (hks : (backToKw pos (keywordEach kws X.env)).filterMap (·.1) = ks)
    (hdb : (x == ("__debug__" : Str)) = false) (hpl : ((backTo pos (starEach [] X.env)).any (·.1) || (backToKw pos (keywordEach kws X.env)).any (·.1.isNone)) = false) :
    PE X (.Call (.Name x p) [] kws pos) (tM Γ W (cCall m 0 j gD cNilD ck)) := by
  subst hj
  exact pm_call0 F hr hg hm hk hb tk hkw hall hks hdb hpl
end
theorem funD_same {K : PySem.W.Frag} {x qual : Str} {params : Arguments} {body : List Stmt} {scope : Scope} {dvs : List V} {kws : List (Str × V)} {f : Addr} {fd fd' : FuncData} (F : FunD K x qual params body scope dvs kws f fd) (F' : FunD K x qual params body scope dvs kws f fd') : fd = fd' := by
  obtain ⟨_, _, _, _, _, _, _, _, _, _, _, lk, _⟩ := F.ex
  obtain ⟨_, _, _, _, _, _, _, _, _, _, _, lk', _⟩ := F'.ex
  rw [lk] at lk'
  injection lk' with e
  injection e with _ _ e
  injection e
/-- the law's walk over a head with facts -/
theorem walk_dv {law : PySem.W.OpenLaw} {k : Nat} {q : Program} {nms : List Str} {XP : (Str → Option Value) → Heap → Prop} {chk : PySem.W.Frag → Bool} {fn : List He.DefD} {d : DefRec} {x : Str} {m : List D → List Sl → Res Rv} {Γ : PySem.W.Frag → Gm} (hΓ : ∀ K, (Γ K).K = K)
    (h1 : law.most = some 63) (h2 : d.params.defaults = []) (h3 : Room k callerA)
    (F : ∀ (w : World) (K : PySem.W.Frag) (mg : Str → Option Value) (h : Heap), K.In h → h.Ns mainGlobals mg → SaysX chk fn K → ∃ (fa : Addr) (fd : FuncData), mg d.name = some (.ref fa) ∧ (∀ (s : Shared) (u : Value), BindsTo s fd ⟨[u], []⟩ [(x, u)]) ∧
      ∀ base : Heap, FnOk law.prog w K mg base (L2.CX law.prog w) k fa fd [x] (spM (Γ K) 1 m))
    (hm : ∀ ns : List Int, ns.length ≤ 63 → ∃ ρ S t, m [.kl (ns.map .int)] [] = .ok (.d (.bl true)) ρ S t) :
    PySem.W.WalkO q nms XP (hookX 4 chk fn).says law.row.toRowW d [] (fun f vs => PySem.call f vs) := by
  refine Att.attach_call h1 h2 fun w z0 z1 mg mb fa o pm cd doc a us ns G Y ho hd hcd atG hobj hints len gens => ?_
  obtain ⟨K, KX, says⟩ := Y
  obtain ⟨fa', fd, at', binds, ok⟩ := F w K mg _ KX G.T.g says
  obtain rfl : fa = fa' := by
    have z := atG.symm.trans at'
    injection z with z
    injection z
  exact law_call KX G.T.g G.T.b G.T.builtins G.T.nolimit gens hobj hints (Nat.le_trans len (by decide)) h3 (fun base _ _ => ok base) binds
    (fun H _ hS => law_sp hm H a ns len (by rw [hΓ]; exact hS)) fun H e z' => cx_never H z1 e z'
end DV

/-! DVq: how mirrors are worked out: one step of each word, from the left; nothing behind a bind is looked at before its turn. -/
namespace DV
open PySem PySem.Spec PyProof.Rows L2

theorem addt_ok {α : Type} (a : α) (ρ S : List Sl) (t t' : Bool) : (Res.ok a ρ S t').addt t = .ok a ρ S (t || t') := rfl
theorem addt_bad {α : Type} (t : Bool) : (Res.bad : Res α).addt t = .bad := rfl
/-! ### choices -/
def pickM {α : Type} (k : Bool) (a b : M α) : M α := fun ρ S => if k = true then a ρ S else b ρ S
theorem pickM_t {α : Type} (a b : M α) (ρ S : List Sl) : pickM true a b ρ S = a ρ S := rfl
theorem pickM_f {α : Type} (a b : M α) (ρ S : List Sl) : pickM false a b ρ S = b ρ S := rfl
/-! ### names, constants -/
def nameR (i : Nat) (ρ S : List Sl) : Option Sl → Res Rv
  | some (.val d) => .ok (.d d) ρ S false
  | some .emp => .bad
  | some _ => .ok (.env i) ρ S false
  | none => .bad
theorem ap_name (i : Nat) (ρ S : List Sl) : cName i ρ S = nameR i ρ S ρ[i]? := by
  unfold cName nameR
  cases ρ[i]? with
  | none => rfl
  | some s => cases s <;> rfl
theorem nameR_val (i : Nat) (ρ S : List Sl) (d : D) : nameR i ρ S (some (.val d)) = .ok (.d d) ρ S false := rfl
theorem nameR_lst (i : Nat) (ρ S : List Sl) (d : List D) : nameR i ρ S (some (.lst d)) = .ok (.env i) ρ S false := rfl
theorem nameR_dK (i : Nat) (ρ S : List Sl) (d) : nameR i ρ S (some (.dK d)) = .ok (.env i) ρ S false := rfl
theorem nameR_dT (i : Nat) (ρ S : List Sl) (d) : nameR i ρ S (some (.dT d)) = .ok (.env i) ρ S false := rfl
theorem ap_C (d : D) (ρ S : List Sl) : cC d ρ S = .ok (.d d) ρ S false := rfl
/-! ### contents -/
theorem cont_int (ρ S : List Sl) (i : Int) : cont ρ S (.d (.int i)) = some (.int i) := rfl
theorem cont_bl (ρ S : List Sl) (i : Bool) : cont ρ S (.d (.bl i)) = some (.bl i) := rfl
theorem cont_str (ρ S : List Sl) (i : Str) : cont ρ S (.d (.str i)) = some (.str i) := rfl
theorem cont_non (ρ S : List Sl) : cont ρ S (.d .non) = some .non := rfl
theorem cont_ty (ρ S : List Sl) (n : String) : cont ρ S (.d (.ty n)) = some (.ty n) := rfl
theorem cont_cl (ρ S : List Sl) (n : Nat) : cont ρ S (.d (.cl n)) = some (.cl n) := rfl
theorem cont_lst (ρ S : List Sl) (n) : cont ρ S (.d (.lst n)) = some (.lst n) := rfl
theorem cont_kl (ρ S : List Sl) (n) : cont ρ S (.d (.kl n)) = some (.kl n) := rfl
theorem cont_tup (ρ S : List Sl) (n) : cont ρ S (.d (.tup n)) = some (.tup n) := rfl
theorem cont_kt (ρ S : List Sl) (n) : cont ρ S (.d (.kt n)) = some (.kt n) := rfl
theorem cont_dK (ρ S : List Sl) (n) : cont ρ S (.d (.dK n)) = some (.dK n) := rfl
theorem cont_dT (ρ S : List Sl) (n) : cont ρ S (.d (.dT n)) = some (.dT n) := rfl
theorem cont_ins (ρ S : List Sl) (c fs) : cont ρ S (.d (.ins c fs)) = some (.ins c fs) := rfl
theorem cont_ob0 (ρ S : List Sl) (xs : List D) : cont ρ (.lst xs :: S) (.d (.ob 0)) = some (.lst xs) := rfl
theorem cont_fr (ρ S : List Sl) (s : Sl) : cont ρ S (.fr s) = s.rd := rfl
theorem cont_env (ρ S : List Sl) (i : Nat) : cont ρ S (.env i) = (ρ[i]?).bind Sl.rd := rfl
theorem rd_lst (xs : List D) : Sl.rd (.lst xs) = some (.lst xs) := rfl
theorem rd_dK (xs) : Sl.rd (.dK xs) = some (.dK xs) := rfl
theorem rd_dT (xs) : Sl.rd (.dT xs) = some (.dT xs) := rfl
theorem obind_some {α β : Type} (a : α) (f : α → Option β) : (some a).bind f = f a := rfl
theorem oor_some {α : Type} (a : α) (b : Option α) : (some a).or b = some a := rfl
theorem oor_none {α : Type} (b : Option α) : (none : Option α).or b = b := by cases b <;> rfl
/-! ### to a datum -/
theorem toD_d (d : D) (ρ S : List Sl) : toD (.d d) ρ S = .ok d ρ S false := rfl
theorem toD_fr (s : Sl) (ρ S : List Sl) : toD (.fr s) ρ S = .ok s.frz ρ S false := rfl
theorem frz_lst (xs : List D) : Sl.frz (.lst xs) = .lst xs := by simp [Sl.frz]
theorem frz_dK (xs) : Sl.frz (.dK xs) = .dK xs := by simp [Sl.frz]
theorem frz_dT (xs) : Sl.frz (.dT xs) = .dT xs := by simp [Sl.frz]
theorem ap_D (c : M Rv) (ρ S : List Sl) : cD c ρ S = (c ρ S).bind toD := rfl
/-! ### operations -/
def two (g : D → D → Option Rv) (a b : Option D) (ρ S : List Sl) : Res Rv := match a, b with
  | some x, some y => lift (g x y) ρ S
  | _, _ => .bad
def bin2 (g : D → D → Option Rv) (ra rb : Rv) : M Rv := fun ρ S => two g (cont ρ S ra) (cont ρ S rb) ρ S
def bin1 (g : D → D → Option Rv) (cb : M Rv) (ra : Rv) : M Rv := fun ρ S => (cb ρ S).bind (bin2 g ra)
theorem ap_bin (g : D → D → Option Rv) (ca cb : M Rv) (ρ S : List Sl) : cBin g ca cb ρ S = (ca ρ S).bind (bin1 g cb) := rfl
theorem ap_bin1 (g : D → D → Option Rv) (cb : M Rv) (ra : Rv) (ρ S : List Sl) : bin1 g cb ra ρ S = (cb ρ S).bind (bin2 g ra) := rfl
theorem ap_bin2 (g : D → D → Option Rv) (ra rb : Rv) (ρ S : List Sl) : bin2 g ra rb ρ S = two g (cont ρ S ra) (cont ρ S rb) ρ S := rfl
theorem two_ok (g : D → D → Option Rv) (x y : D) (ρ S : List Sl) : two g (some x) (some y) ρ S = lift (g x y) ρ S := rfl
theorem lift_some (r : Rv) (ρ S : List Sl) : lift (some r) ρ S = .ok r ρ S false := rfl
def negR (o : Option D) (ρ S : List Sl) : Res Rv := match o with
  | some (.int i) => .ok (.d (.int (-i))) ρ S false
  | _ => .bad
def neg1 (r : Rv) : M Rv := fun ρ S => negR (cont ρ S r) ρ S
theorem ap_neg (c : M Rv) (ρ S : List Sl) : cNeg c ρ S = (c ρ S).bind neg1 := rfl
theorem ap_neg1 (r : Rv) (ρ S : List Sl) : neg1 r ρ S = negR (cont ρ S r) ρ S := rfl
theorem negR_ok (i : Int) (ρ S : List Sl) : negR (some (.int i)) ρ S = .ok (.d (.int (-i))) ρ S false := rfl
/-! ### argument lists -/
def consT {α : Type} (d : α) (ds : List α) : M (List α) := fun ρ S => .ok (d :: ds) ρ S false
def cons1 {α : Type} (cs : M (List α)) (d : α) : M (List α) := fun ρ S => (cs ρ S).bind (consT d)
theorem ap_nilD (ρ S : List Sl) : cNilD ρ S = .ok [] ρ S false := rfl
theorem ap_consD (c : M Rv) (cs : M (List D)) (ρ S : List Sl) : cConsD c cs ρ S = (cD c ρ S).bind (cons1 cs) := rfl
theorem ap_cons1 {α : Type} (cs : M (List α)) (d : α) (ρ S : List Sl) : cons1 cs d ρ S = (cs ρ S).bind (consT d) := rfl
theorem ap_consT {α : Type} (d : α) (ds : List α) (ρ S : List Sl) : consT d ds ρ S = .ok (d :: ds) ρ S false := rfl
theorem ap_nilR (ρ S : List Sl) : cNilR ρ S = .ok [] ρ S false := rfl
theorem ap_consR (c : M Rv) (cs : M (List Rv)) (ρ S : List Sl) : cConsR c cs ρ S = (c ρ S).bind (cons1 cs) := rfl
theorem conts_nil (ρ S : List Sl) : conts ρ S [] = some [] := rfl
def cons2 : Option D → Option (List D) → Option (List D)
  | some d, some ds => some (d :: ds)
  | _, _ => none
theorem conts_cons (ρ S : List Sl) (r : Rv) (rs : List Rv) : conts ρ S (r :: rs) = cons2 (cont ρ S r) (conts ρ S rs) := by
  unfold cons2
  rw [conts]
  all_goals (cases cont ρ S r <;> cases conts ρ S rs <;> rfl)
theorem cons2_some (d : D) (ds : List D) : cons2 (some d) (some ds) = some (d :: ds) := rfl
def one (g : List D → Option Rv) (ds : Option (List D)) (ρ S : List Sl) : Res Rv := match ds with
  | some ds => lift (g ds) ρ S
  | none => .bad
def blt1 (g : List D → Option Rv) (rs : List Rv) : M Rv := fun ρ S => one g (conts ρ S rs) ρ S
theorem ap_blt (g : List D → Option Rv) (cs : M (List Rv)) (ρ S : List Sl) : cBlt g cs ρ S = (cs ρ S).bind (blt1 g) := rfl
theorem ap_blt1 (g : List D → Option Rv) (rs : List Rv) (ρ S : List Sl) : blt1 g rs ρ S = one g (conts ρ S rs) ρ S := rfl
theorem one_ok (g : List D → Option Rv) (ds : List D) (ρ S : List Sl) : one g (some ds) ρ S = lift (g ds) ρ S := rfl
def tup1 (ds : List D) : M Rv := fun ρ S => if ds.length ≤ sizeLine then .ok (.d (.tup ds)) ρ S false else .bad
theorem ap_tup (cs : M (List D)) (ρ S : List Sl) : cTup cs ρ S = (cs ρ S).bind tup1 := rfl
theorem tup1_ok {ds : List D} {ρ S : List Sl} (h : ds.length ≤ sizeLine) : tup1 ds ρ S = .ok (.d (.tup ds)) ρ S false := if_pos h
def lst1 (ds : List D) : M Rv := fun ρ S => if ds.length ≤ sizeLine then .ok (.fr (.lst ds)) ρ S false else .bad
theorem ap_lst (cs : M (List D)) (ρ S : List Sl) : cLst cs ρ S = (cs ρ S).bind lst1 := rfl
theorem lst1_ok {ds : List D} {ρ S : List Sl} (h : ds.length ≤ sizeLine) : lst1 ds ρ S = .ok (.fr (.lst ds)) ρ S false := if_pos h
/-! ### calls -/
def callR (m : List D → List Sl → Res Rv) (n j : Nat) (gD : List D → List D → List D) (ds es : List D) (ρ S : List Sl) : Res Rv := if ds.length = n ∧ es.length = j then (m (gD ds es) S).at ρ else .bad
def call1 (m : List D → List Sl → Res Rv) (n j : Nat) (gD : List D → List D → List D) (ks : M (List D)) (ds : List D) : M Rv := fun ρ S => (ks ρ S).bind (callR m n j gD ds)
theorem ap_call (m : List D → List Sl → Res Rv) (n j : Nat) (gD : List D → List D → List D) (cs ks : M (List D)) (ρ S : List Sl) : cCall m n j gD cs ks ρ S = (cs ρ S).bind (call1 m n j gD ks) := rfl
theorem ap_call1 (m : List D → List Sl → Res Rv) (n j : Nat) (gD : List D → List D → List D) (ks : M (List D)) (ds : List D) (ρ S : List Sl) : call1 m n j gD ks ds ρ S = (ks ρ S).bind (callR m n j gD ds) := rfl
theorem callR_ok {m : List D → List Sl → Res Rv} {n j : Nat} {gD : List D → List D → List D} {ds es : List D} {ρ S : List Sl} (h1 : ds.length = n) (h2 : es.length = j) : callR m n j gD ds es ρ S = (m (gD ds es) S).at ρ := if_pos ⟨h1, h2⟩
theorem at_ok {α : Type} (ρ ρ' S : List Sl) (r : α) (t : Bool) : (Res.ok r ρ' S t).at ρ = .ok r ρ S false := rfl
/-! ### tests -/
def tstR (r : Rv) (ρ S : List Sl) : Res Bool := match r with
  | .d (.bl b) => .ok b ρ S false
  | _ => .bad
theorem ap_tst (c : M Rv) (ρ S : List Sl) : cTst c ρ S = (c ρ S).bind tstR := rfl
theorem tstR_ok (b : Bool) (ρ S : List Sl) : tstR (.d (.bl b)) ρ S = .ok b ρ S false := rfl
def truR (o : Option Bool) (ρ S : List Sl) : Res Bool := match o with
  | some b => .ok b ρ S false
  | none => .bad
def tru1 (r : Rv) : M Bool := fun ρ S => truR ((cont ρ S r).bind truD) ρ S
theorem ap_tru (c : M Rv) (ρ S : List Sl) : cTru c ρ S = (c ρ S).bind tru1 := rfl
theorem ap_tru1 (r : Rv) (ρ S : List Sl) : tru1 r ρ S = truR ((cont ρ S r).bind truD) ρ S := rfl
theorem truR_ok (b : Bool) (ρ S : List Sl) : truR (some b) ρ S = .ok b ρ S false := rfl
theorem truD_bl (b : Bool) : truD (.bl b) = some b := rfl
def notR (b : Bool) : M Bool := fun ρ S => .ok (!b) ρ S false
def okB (b : Bool) : M Bool := fun ρ S => .ok b ρ S false
theorem ap_okB (b : Bool) (ρ S : List Sl) : okB b ρ S = .ok b ρ S false := rfl
theorem ap_notB (c : M Bool) (ρ S : List Sl) : cNotB c ρ S = (c ρ S).bind notR := rfl
theorem ap_notR (b : Bool) (ρ S : List Sl) : notR b ρ S = .ok (!b) ρ S false := rfl
def andB1 (d : M Bool) (b : Bool) : M Bool := pickM b d (okB false)
theorem ap_andB (c d : M Bool) (ρ S : List Sl) : cAndB c d ρ S = (c ρ S).bind (andB1 d) := rfl
theorem ap_andB1 (d : M Bool) (b : Bool) (ρ S : List Sl) : andB1 d b ρ S = pickM b d (okB false) ρ S := rfl
def orB1 (d : M Bool) (b : Bool) : M Bool := pickM b (okB true) d
theorem ap_orB (c d : M Bool) (ρ S : List Sl) : cOrB c d ρ S = (c ρ S).bind (orB1 d) := rfl
theorem ap_orB1 (d : M Bool) (b : Bool) (ρ S : List Sl) : orB1 d b ρ S = pickM b (okB true) d ρ S := rfl
/-! ### statements -/
def seqR (b : M Fl) (r : Res Fl) : Res Fl := match r with
  | .ok .nx ρ S _ => b ρ S
  | r => r
theorem ap_seq (a b : M Fl) (ρ S : List Sl) : cSeq a b ρ S = seqR b (a ρ S) := by
  unfold cSeq seqR
  cases a ρ S with
  | ok f ρ1 S1 t => cases f <;> rfl
  | ex _ _ _ => rfl
  | bad => rfl
theorem seqR_nx (b : M Fl) (ρ S : List Sl) (t : Bool) : seqR b (.ok .nx ρ S t) = b ρ S := rfl
theorem seqR_rt (b : M Fl) (ρ S : List Sl) (t : Bool) (r : Rv) : seqR b (.ok (.rt r) ρ S t) = .ok (.rt r) ρ S t := rfl
theorem ap_nx (ρ S : List Sl) : cNx ρ S = .ok .nx ρ S false := rfl
def ifS1 (a b : M Fl) (k : Bool) : M Fl := pickM k a b
theorem ap_ifS (t : M Bool) (a b : M Fl) (ρ S : List Sl) : cIfS t a b ρ S = (t ρ S).bind (ifS1 a b) := rfl
theorem ap_ifS1 (a b : M Fl) (k : Bool) (ρ S : List Sl) : ifS1 a b k ρ S = pickM k a b ρ S := rfl
def rtR (r : Rv) : M Fl := fun ρ S => .ok (.rt r) ρ S false
def ret1 (r : Rv) : M Fl := fun ρ S => (outR r ρ S).bind rtR
theorem ap_ret (c : M Rv) (ρ S : List Sl) : cRet c ρ S = (c ρ S).bind ret1 := rfl
theorem ap_ret1 (r : Rv) (ρ S : List Sl) : ret1 r ρ S = (outR r ρ S).bind rtR := rfl
theorem ap_rtR (r : Rv) (ρ S : List Sl) : rtR r ρ S = .ok (.rt r) ρ S false := rfl
theorem outR_d (d : D) (ρ S : List Sl) : outR (.d d) ρ S = .ok (.d d) ρ S false := rfl
theorem outR_fr (s : Sl) (ρ S : List Sl) : outR (.fr s) ρ S = .ok (.fr s) ρ S false := rfl
def setR (i : Nat) (d : D) (ρ S : List Sl) : Res Fl := if i < ρ.length then .ok .nx (ρ.set i (.val d)) S false else .bad
def set1 (i : Nat) (r : Rv) : M Fl := fun ρ S => (toD r ρ S).bind (setR i)
theorem ap_set (i : Nat) (c : M Rv) (ρ S : List Sl) : cSet false i c ρ S = (c ρ S).bind (set1 i) := rfl
theorem ap_set1 (i : Nat) (r : Rv) (ρ S : List Sl) : set1 i r ρ S = (toD r ρ S).bind (setR i) := rfl
theorem setR_ok (i : Nat) (d : D) (ρ S : List Sl) (h : i < ρ.length) : setR i d ρ S = .ok .nx (ρ.set i (.val d)) S false := if_pos h
def putR (g : Sl → D → D → Option Sl) (d : D) (ro : Rv) (a : Option Sl) (b : Option D) (ρ S : List Sl) : Res Fl := match a, b with
  | some s, some k => (match g s k d with
    | some s' => .ok .nx (putP ro s' ρ S).1 (putP ro s' ρ S).2 false
    | none => .bad)
  | _, _ => .bad
def put3 (g : Sl → D → D → Option Sl) (d : D) (ro ri : Rv) : M Fl := fun ρ S => putR g d ro (getP ro ρ S) (cont ρ S ri) ρ S
def put2 (g : Sl → D → D → Option Sl) (ci : M Rv) (d : D) (ro : Rv) : M Fl := fun ρ S => (ci ρ S).bind (put3 g d ro)
def put1 (g : Sl → D → D → Option Sl) (co ci : M Rv) (d : D) : M Fl := fun ρ S => (co ρ S).bind (put2 g ci d)
theorem ap_put (g : Sl → D → D → Option Sl) (c co ci : M Rv) (ρ S : List Sl) : cPut g c co ci ρ S = (cD c ρ S).bind (put1 g co ci) := rfl
theorem ap_put1 (g : Sl → D → D → Option Sl) (co ci : M Rv) (d : D) (ρ S : List Sl) : put1 g co ci d ρ S = (co ρ S).bind (put2 g ci d) := rfl
theorem ap_put2 (g : Sl → D → D → Option Sl) (ci : M Rv) (d : D) (ro : Rv) (ρ S : List Sl) : put2 g ci d ro ρ S = (ci ρ S).bind (put3 g d ro) := rfl
theorem ap_put3 (g : Sl → D → D → Option Sl) (d : D) (ro ri : Rv) (ρ S : List Sl) : put3 g d ro ri ρ S = putR g d ro (getP ro ρ S) (cont ρ S ri) ρ S := rfl
theorem getP_ob0 (ρ S : List Sl) (xs : List D) : getP (.d (.ob 0)) ρ (.lst xs :: S) = some (.lst xs) := rfl
theorem putR_lst0 {xs : List D} {i : Int} {d : D} {ρ S : List Sl} {j : Nat} (h : ixN xs.length i = some j) : putR stS d (.d (.ob 0)) (some (.lst xs)) (some (.int i)) ρ (.lst xs :: S) = .ok .nx ρ (.lst (xs.set j d) :: S) false := by
  simp [putR, stS, stL, h, putP]

/-! ### operations on numbers, lists -/
theorem ev_add_int (a b : Int) : oAdd (.int a) (.int b) = some (.d (.int (a + b))) := rfl
theorem ev_sub_int (a b : Int) : oSub (.int a) (.int b) = some (.d (.int (a - b))) := rfl
theorem ev_mul_r {a b : Int} (h : b.natAbs < 2 ^ 64) : oMul (.int a) (.int b) = some (.d (.int (a * b))) := by
  simp [oMul, oMulI, oInt, h]
theorem ev_mul_l {a b : Int} (h : a.natAbs < 2 ^ 64) : oMul (.int a) (.int b) = some (.d (.int (a * b))) := by
  simp [oMul, oMulI, oInt, h]
theorem ev_mod_int {a b : Int} (h : 0 < b) : oMod (.int a) (.int b) = some (.d (.int (a % b))) := by
  simp [oMod, oInt, h]
theorem ev_fdiv_int {a b : Int} (h : 0 < b) (h2 : b < 1073741824) : oFdiv (.int a) (.int b) = some (.d (.int (a / b))) := by
  simp [oFdiv, oInt, h, h2]
theorem ev_pow_int {a b : Int} (h : 0 ≤ b) (h1 : b ≤ 1000000) (h2 : a.natAbs < 2 ^ 64) : oPow (.int a) (.int b) = some (.d (.int (a ^ b.toNat))) := by
  simp [oPow, oInt, h, h1, h2]
theorem ev_lt_int (a b : Int) : oLt (.int a) (.int b) = some (.d (.bl (decide (a < b)))) := rfl
theorem ev_le_int (a b : Int) : oLe (.int a) (.int b) = some (.d (.bl (decide (a ≤ b)))) := rfl
theorem ev_gt_int (a b : Int) : oGt (.int a) (.int b) = some (.d (.bl (decide (b < a)))) := rfl
theorem ev_ge_int (a b : Int) : oGe (.int a) (.int b) = some (.d (.bl (decide (b ≤ a)))) := rfl
theorem vint_eq (a b : Int) : decide (V.int a = V.int b) = decide (a = b) := by
  by_cases h : a = b
  · subst h; simp
  · have h2 : ¬ V.int a = V.int b := fun z => h (by cases z; rfl)
    simp [h, h2]
theorem ev_eq_int (a b : Int) : oEq false (.int a) (.int b) = some (.d (.bl (decide (a = b)))) := by
  show some (Rv.d (.bl (false != decide (V.int a = V.int b)))) = _
  rw [vint_eq]
  simp
theorem ev_ne_int (a b : Int) : oEq true (.int a) (.int b) = some (.d (.bl (!decide (a = b)))) := by
  show some (Rv.d (.bl (true != decide (V.int a = V.int b)))) = _
  rw [vint_eq]
  simp
theorem atI_nn {α : Type} {xs : List α} {i : Int} (h : 0 ≤ i) : atI xs i = xs[i.toNat]? := by
  unfold atI ixN
  rw [if_pos h]
  split
  · rfl
  · rename_i h2
    rw [List.getElem?_eq_none (by omega)]
    rfl
theorem ev_get_lst (xs : List D) (i : Int) : oGet (.lst xs) (.int i) = (atI xs i).map .d := by
  show ((atI xs i).map Rv.d).or none = _
  cases atI xs i <;> rfl
theorem ev_get_tup (xs : List D) (i : Int) : oGet (.tup xs) (.int i) = (atI xs i).map .d := by
  show ((atI xs i).map Rv.d).or none = _
  cases atI xs i <;> rfl
theorem omap_some {α β : Type} (a : α) (f : α → β) : (some a).map f = some (f a) := rfl
theorem ev_len_lst (xs : List D) : gLen [.lst xs] = some (.d (.int xs.length)) := rfl
theorem ev_gint_int (i : Int) : gInt [.int i] = some (.d (.int i)) := rfl
theorem ev_gabs_int (i : Int) : gAbs [.int i] = some (.d (.int (if i < 0 then -i else i))) := rfl
theorem ixN_nn {n : Nat} {i : Int} (h : 0 ≤ i) (h2 : i < n) : ixN n i = some i.toNat := by
  unfold ixN
  rw [if_pos h, if_pos h2]
theorem putR_at {xs : List D} {i : Int} {d : D} {ρ S : List Sl} (h : 0 ≤ i) (h2 : i.toNat < xs.length) : putR stS d (.d (.ob 0)) (some (.lst xs)) (some (.int i)) ρ (.lst xs :: S) = .ok .nx ρ (.lst (xs.set i.toNat d) :: S) false :=
  putR_lst0 (ixN_nn h (by omega))
theorem endM_rt (r : Rv) (ρ S : List Sl) (t : Bool) : endM (.ok (.rt r) ρ S t) = .ok r [] S false := rfl
theorem endM_nx (ρ S : List Sl) (t : Bool) : endM (.ok .nx ρ S t) = .ok (.d .non) [] S false := rfl
theorem ap_def (n : Nat) (c : M Fl) (ds : List D) (S : List Sl) : defM n c ds S = endM (c (env0 n ds) S) := rfl
end DV

/-! DVr: the laws' own helpers: the bag is opened, drawn from. -/
namespace DV
open PySem PySem.Spec PyProof.Rows L2
local macro_rules
  | `(tactic| simp_arith [$ts,*]) => `(tactic| simp only [ap_def, env0, List.map_cons, List.map_nil, List.length_cons, List.length_nil, List.replicate, Nat.reduceAdd, Nat.reduceSub, List.cons_append, List.nil_append,
    ap_seq, ap_put, ap_D, ap_bin, ap_name, List.getElem?_cons_zero, List.getElem?_cons_succ, nameR_val, nameR_lst, Res.bind_ok, ap_bin1, ap_C, ap_bin2, cont_ob0, cont_int, cont_bl, cont_str, cont_non, cont_ty, cont_lst, cont_kl, cont_tup, cont_kt, cont_fr, cont_env, rd_lst, obind_some,
    two_ok, ev_get_lst, ev_get_tup, atI_nn, Int.reduceLE, Int.reduceToNat, omap_some, lift_some, addt_ok, Bool.or_false, Bool.or_self, ev_add_int, ev_sub_int, toD_d, toD_fr, frz_lst, ap_put1, ap_put2, ap_put3, getP_ob0, putR_at, Int.reduceLT, List.set_cons_succ, List.set_cons_zero,
    seqR_nx, ap_ifS, ap_andB, ap_orB, ap_notB, ap_notR, ap_tst, ev_eq_int, ev_ne_int, tstR_ok, ap_andB1, ap_orB1, decide_false, decide_true, Bool.not_true, Bool.not_false, pickM_f, pickM_t, ap_okB, ap_ifS1, ap_nx, ev_gt_int, ev_ge_int, ev_lt_int, ev_le_int,
    ap_set, ap_set1, setR_ok, ap_blt, ap_consR, ap_nilR, ap_consD, ap_nilD, ap_cons1, ap_consT, ap_blt1, conts_cons, conts_nil, cons2_some, one_ok, ev_gint_int, ev_gabs_int, ev_len_lst, ev_mod_int, ev_fdiv_int, ap_ret, ap_ret1, outR_d, outR_fr, ap_rtR, seqR_rt, endM_rt, endM_nx, Nat.reduceLT,
    ap_call, ap_call1, at_ok, ap_tup, ap_lst, ap_tru, ap_tru1, truR_ok, truD_bl, ap_neg, ap_neg1, negR_ok, $ts,*])
def drawC : M Fl := (cSeq (cPut stS (cBin oAdd (cBin oGet (cName 0) (cC (.int 4))) (cC (.int 1))) (cName 0) (cC (.int 4)))
    (cSeq (cIfS (cAndB (cTst (cBin (oEq false) (cBin oGet (cName 0) (cC (.int 2))) (cC (.int 0)))) (cTst (cBin oLt (cBin oGet (cName 0) (cC (.int 1))) (cBlt gLen (cConsR (cBin oGet (cName 0) (cC (.int 0))) cNilR))))) (cSeq (cSet false 2 (cBin oGet (cBin oGet (cName 0) (cC (.int 0))) (cBin oGet (cName 0) (cC (.int 1)))))
    (cSeq (cPut stS (cBin oAdd (cBin oGet (cName 0) (cC (.int 1))) (cC (.int 1))) (cName 0) (cC (.int 1)))
    (cIfS (cTst (cBin oGe (cBlt gAbs (cConsR (cName 2) cNilR)) (cBin oPow (cC (.int 10)) (cC (.int 18))))) (cPut stS (cBlt gAbs (cConsR (cName 2) cNilR)) (cName 0) (cC (.int 2))) (cSeq (cSet false 3 (cBin oAdd (cBin oMul (cBin oMod (cBlt gInt (cConsR (cName 2) cNilR)) (cC (.int 1000303))) (cC (.int 769))) (cC (.int 41))))
    (cPut stS (cBin oMod (cBlt gInt (cConsR (cBin oAdd (cBin oMul (cBin oGet (cName 0) (cC (.int 3))) (cC (.int 43789))) (cName 3)) cNilR)) (cC (.int 2147483629))) (cName 0) (cC (.int 3))))))) cNx)
    (cSeq (cIfS (cTst (cBin oGt (cBin oGet (cName 0) (cC (.int 2))) (cC (.int 0)))) (cSeq (cSet false 4 (cBin oMod (cBlt gInt (cConsR (cBin oGet (cName 0) (cC (.int 2))) cNilR)) (cName 1)))
    (cSeq (cPut stS (cBin oFdiv (cBin oGet (cName 0) (cC (.int 2))) (cName 1)) (cName 0) (cC (.int 2)))
    (cRet (cName 4)))) cNx)
    (cSeq (cSet false 5 (cBin oGet (cName 0) (cC (.int 3))))
    (cSeq (cSet false 6 (cBin oAdd (cBin oAdd (cBin oMul (cName 5) (cC (.int 49031))) (cBin oMul (cBin oGet (cName 0) (cC (.int 4))) (cC (.int 110023)))) (cC (.int 60037))))
    (cSeq (cPut stS (cBin oMod (cBlt gInt (cConsR (cBin oAdd (cBin oMul (cBin oMul (cName 5) (cName 5)) (cC (.int 17))) (cName 6)) cNilR)) (cC (.int 2147483587))) (cName 0) (cC (.int 3)))
    (cRet (cBin oMod (cBlt gInt (cConsR (cBin oAdd (cBin oFdiv (cBin oGet (cName 0) (cC (.int 3))) (cC (.int 73))) (cBin oMul (cBin oMod (cBlt gInt (cConsR (cBin oGet (cName 0) (cC (.int 3))) cNilR)) (cC (.int 8009))) (cC (.int 61)))) cNilR)) (cName 1)))))))))
def drawM : List D → List Sl → Res Rv := defM 7 drawC
def openC : M Fl := (cSeq (cSet false 1 (cC (.int 12025)))
    (cSeq (cFor (cIts (cSl oCut (cName 0) cNoP (cPart (cC (.int 63))))) (.nm 2) (cSet false 1 (cBin oMod (cBlt gInt (cConsR (cBin oAdd (cBin oAdd (cBin oMul (cName 1) (cC (.int 52361))) (cBin oMul (cBin oMod (cBlt gInt (cConsR (cName 2) cNilR)) (cC (.int 1000303))) (cC (.int 877)))) (cC (.int 37))) cNilR)) (cC (.int 2147483587)))))
    (cRet (cLst (cConsD (cBlt gList (cConsR (cSl oCut (cName 0) cNoP (cPart (cC (.int 63)))) cNilR)) (cConsD (cC (.int 0)) (cConsD (cC (.int 0)) (cConsD (cName 1) (cConsD (cC (.int 0)) cNilD)))))))))
def openM : List D → List Sl → Res Rv := defM 3 openC
abbrev bagL (xs : List Int) (p g m c : Int) : Sl := .lst [.lst (xs.map .int), .int p, .int g, .int m, .int c]
def Bag (b : Sl) : Prop := ∃ xs p g m c, b = bagL xs p g m c ∧ 0 ≤ p ∧ 0 ≤ g ∧ 0 ≤ m ∧ m < 2147483648
section
variable (xs : List Int) (p g m c n : Int) (rest : List Sl)
theorem draw_hi (hn : 0 < n) (hn2 : n < 1073741824) (hg : 0 < g) : drawM [.ob 0, .int n] (bagL xs p g m c :: rest) = .ok (.d (.int (g % n))) [] (bagL xs p (g / n) m (c + 1) :: rest) false := by
  have hg0 : ¬ g = 0 := by omega
  simp_arith [drawM, drawC, bagL, hg0, hg, hn, hn2]
theorem pow18 : oPow (.int 10) (.int 18) = some (.d (.int 1000000000000000000)) := by
  rw [ev_pow_int (by decide) (by decide) (by decide)]
  rfl
theorem draw_big (x : Int) (hx : xs[p.toNat]? = some x) (hp : 0 ≤ p) (hp2 : p < xs.length) (hn : 0 < n) (hn2 : n < 1073741824) (hb : 1000000000000000000 ≤ (if x < 0 then -x else x)) :
    drawM [.ob 0, .int n] (bagL xs p 0 m c :: rest) = .ok (.d (.int ((if x < 0 then -x else x) % n))) [] (bagL xs (p + 1) ((if x < 0 then -x else x) / n) m (c + 1) :: rest) false := by
  have h0 : ¬ (if x < 0 then -x else x) = 0 := by omega
  have h1 : 0 < (if x < 0 then -x else x) := by omega
  simp_arith [drawM, drawC, bagL, hn, hn2, pow18, List.length_map, hp2, hp, List.getElem?_map, hx, hb, h1, Option.map_some]
abbrev drop_ (m c : Int) : Int := (m * m * 17 + (m * 49031 + c * 110023 + 60037)) % 2147483587
theorem draw_lo (hp2 : ¬ p < xs.length) (hm : 0 ≤ m) (hm2 : m < 2147483648) (hn : 0 < n) (hn2 : n < 1073741824) :
    drawM [.ob 0, .int n] (bagL xs p 0 m c :: rest) = .ok (.d (.int ((drop_ m (c + 1) / 73 + drop_ m (c + 1) % 8009 * 61) % n))) [] (bagL xs p 0 (drop_ m (c + 1)) (c + 1) :: rest) false := by
  have h17 : m.natAbs < 2 ^ 64 := by omega
  have e : ∀ a k : Int, k.natAbs < 2 ^ 64 → oMul (.int a) (.int k) = some (.d (.int (a * k))) := fun a k h => ev_mul_r h
  simp_arith [drawM, drawC, bagL, hn, hn2, List.length_map, hp2, ev_mul_r h17, e _ 17 (by decide), e _ 49031 (by decide), e _ 110023 (by decide), e _ 61 (by decide)]
abbrev mix_ (m x : Int) : Int := (m * 43789 + (x % 1000303 * 769 + 41)) % 2147483629
theorem draw_sm (x : Int) (hx : xs[p.toNat]? = some x) (hp : 0 ≤ p) (hp2 : p < xs.length) (hn : 0 < n) (hn2 : n < 1073741824) (hb : ¬ 1000000000000000000 ≤ (if x < 0 then -x else x)) :
    drawM [.ob 0, .int n] (bagL xs p 0 m c :: rest) = .ok (.d (.int ((drop_ (mix_ m x) (c + 1) / 73 + drop_ (mix_ m x) (c + 1) % 8009 * 61) % n))) [] (bagL xs (p + 1) 0 (drop_ (mix_ m x) (c + 1)) (c + 1) :: rest) false := by
  have h17 : (mix_ m x).natAbs < 2 ^ 64 := by
    unfold mix_
    omega
  have e : ∀ a k : Int, k.natAbs < 2 ^ 64 → oMul (.int a) (.int k) = some (.d (.int (a * k))) := fun a k h => ev_mul_r h
  have e2 := ev_mul_r (a := mix_ m x) (b := mix_ m x) h17
  unfold mix_ at e2
  simp_arith [drawM, drawC, bagL, hn, hn2, pow18, List.length_map, hp2, hp, List.getElem?_map, hx, hb, Option.map_some, e _ 17 (by decide), e _ 49031 (by decide), e _ 110023 (by decide), e _ 61 (by decide), e _ 769 (by decide), e _ 43789 (by decide), e2]
theorem Bag.draw {b : Sl} (h : Bag b) (hn : 0 < n) (hn2 : n < 1073741824) : ∃ v b', 0 ≤ v ∧ v < n ∧ Bag b' ∧ ∀ rest, drawM [.ob 0, .int n] (b :: rest) = .ok (.d (.int v)) [] (b' :: rest) false := by
  obtain ⟨xs, p, g, m, c, rfl, hp, hg, hm, hm2⟩ := h
  have nn : ∀ a : Int, 0 ≤ a % n ∧ a % n < n := fun a => ⟨Int.emod_nonneg _ (by omega), Int.emod_lt_of_pos _ hn⟩
  have dd : ∀ a : Int, 0 ≤ a → 0 ≤ a / n := fun a ha => Int.ediv_nonneg ha (by omega)
  by_cases hg0 : 0 < g
  · exact ⟨_, _, (nn _).1, (nn _).2, ⟨xs, p, g / n, m, c + 1, rfl, hp, dd _ hg, hm, hm2⟩, fun rest => draw_hi xs p g m c n rest hn hn2 hg0⟩
  · obtain rfl : g = 0 := by omega
    by_cases hp2 : p < xs.length
    · obtain ⟨x, hx⟩ : ∃ x, xs[p.toNat]? = some x := ⟨xs[p.toNat]'(by omega), List.getElem?_eq_getElem _⟩
      by_cases hb : 1000000000000000000 ≤ (if x < 0 then -x else x)
      · exact ⟨_, _, (nn _).1, (nn _).2, ⟨xs, p + 1, _, m, c + 1, rfl, by omega, dd _ (by omega), hm, hm2⟩, fun rest => draw_big xs p m c n rest x hx hp hp2 hn hn2 hb⟩
      · exact ⟨_, _, (nn _).1, (nn _).2, ⟨xs, p + 1, 0, _, c + 1, rfl, by omega, by omega, by unfold drop_; omega, by unfold drop_; omega⟩, fun rest => draw_sm xs p m c n rest x hx hp hp2 hn hn2 hb⟩
    · exact ⟨_, _, (nn _).1, (nn _).2, ⟨xs, p, 0, _, c + 1, rfl, hp, by omega, by unfold drop_; omega, by unfold drop_; omega⟩, fun rest => draw_lo xs p m c n rest hp2 hm hm2 hn hn2⟩
end
end DV

/-! DVs: loops and comprehensions worked out by an invariant. -/
namespace DV
open PySem PySem.Spec PyProof.Rows L2

def forR (g : Tgt) (b : M Fl) (r : Res (List D)) : Res Fl := match r with
  | .ok ds ρ S _ => forM g b ds ρ S
  | .ex x ρ S => .ex x ρ S
  | .bad => .bad
theorem ap_for (ci : M (List D)) (g : Tgt) (b : M Fl) (ρ S : List Sl) : cFor ci g b ρ S = forR g b (ci ρ S) := by
  unfold cFor forR
  rfl
theorem forR_ok (g : Tgt) (b : M Fl) (ds : List D) (ρ S : List Sl) (t : Bool) : forR g b (.ok ds ρ S t) = forM g b ds ρ S := rfl
/-- no turn leaves the loop -/
theorem forM_nx {g : Tgt} {b : M Fl} (I : List Sl → List Sl → Prop) : ∀ (ds : List D) (ρ S : List Sl), (∀ d ∈ ds, ∀ ρ S, I ρ S → ∃ ρ1 ρ2 S2 t, bindT g d ρ = some ρ1 ∧ b ρ1 S = .ok .nx ρ2 S2 t ∧ I ρ2 S2) → I ρ S →
    ∃ ρ' S', forM g b ds ρ S = .ok .nx ρ' S' false ∧ I ρ' S'
  | [], ρ, S, _, i => ⟨ρ, S, rfl, i⟩
  | d :: ds, ρ, S, h, i => by
    obtain ⟨ρ1, ρ2, S2, t, e1, e2, i2⟩ := h d (by simp) ρ S i
    obtain ⟨ρ', S', e3, i3⟩ := forM_nx I ds ρ2 S2 (fun d hd => h d (by simp [hd])) i2
    refine ⟨ρ', S', ?_, i3⟩
    rw [forM]
    simp only [e1, e2]
    exact e3
/-- every turn passes, or one hands r back: the i-th turn's way is told by w -/
theorem forM_until {g : Tgt} {b : M Fl} (I : List Sl → List Sl → Prop) (r : Rv) (w : D → Bool) : ∀ (ds : List D) (ρ S : List Sl), (∀ d ∈ ds, ∀ ρ S, I ρ S → ∃ ρ1, bindT g d ρ = some ρ1 ∧ (w d = true → ∃ ρ2 S2 t, b ρ1 S = .ok .nx ρ2 S2 t ∧ I ρ2 S2) ∧ (w d = false → ∃ ρ2 S2 t, b ρ1 S = .ok (.rt r) ρ2 S2 t ∧ I ρ2 S2)) → I ρ S →
    ∃ ρ' S', I ρ' S' ∧ forM g b ds ρ S = if ds.all w = true then .ok .nx ρ' S' false else .ok (.rt r) ρ' S' false
  | [], ρ, S, _, i => ⟨ρ, S, i, rfl⟩
  | d :: ds, ρ, S, h, i => by
    obtain ⟨ρ1, e1, ht, hf⟩ := h d (by simp) ρ S i
    cases hw : w d with
    | true =>
      obtain ⟨ρ2, S2, t, e2, i2⟩ := ht hw
      obtain ⟨ρ', S', i3, e3⟩ := forM_until I r w ds ρ2 S2 (fun d hd => h d (by simp [hd])) i2
      refine ⟨ρ', S', i3, ?_⟩
      rw [forM]
      simp only [e1, e2, List.all_cons, hw, Bool.true_and]
      exact e3
    | false =>
      obtain ⟨ρ2, S2, t, e2, i2⟩ := hf hw
      refine ⟨ρ2, S2, i2, ?_⟩
      rw [forM]
      simp only [e1, e2, List.all_cons, hw, Bool.false_and]
      rfl
/-! ### comprehensions -/
def lcR (vs : List Nat) (g : Tgt) (t : M Bool) (c : M Rv) (r : Res (List D)) : Res Rv := match r with
  | .ok ds ρ1 S1 _ => (match compM vs g t c ds [] (wipeS ρ1 vs) S1 with
    | .ok acc ρ2 S2 _ => .ok (.fr (.lst acc)) ρ2 S2 true
    | _ => .bad)
  | .ex x ρ1 S1 => .ex x ρ1 S1
  | .bad => .bad
theorem ap_lc (ci : M (List D)) (vs : List Nat) (g : Tgt) (t : M Bool) (c : M Rv) (ρ S : List Sl) : cLc ci vs g t c ρ S = lcR vs g t c (ci ρ S) := by
  unfold cLc lcR
  rfl
theorem lcR_ok {vs : List Nat} {g : Tgt} {t : M Bool} {c : M Rv} {ds acc : List D} {ρ1 S1 ρ2 S2 : List Sl} {f f2 : Bool} (h : compM vs g t c ds [] (wipeS ρ1 vs) S1 = .ok acc ρ2 S2 f2) : lcR vs g t c (.ok ds ρ1 S1 f) = .ok (.fr (.lst acc)) ρ2 S2 true := by
  unfold lcR
  simp only [h]
/-- each item is made, nothing is left out; the things of the store keep I, the made ones are P -/
theorem compM_all {vs : List Nat} {g : Tgt} {c : M Rv} {ρw : List Sl} (I : List Sl → Prop) (P : D → D → Prop) : ∀ (ds acc : List D) (S : List Sl), acc.length + ds.length ≤ sizeLine →
    (∀ d ∈ ds, ∀ S, I S → ∃ ρ1 d' ρ2 S2 f, bindT g d ρw = some ρ1 ∧ cD c ρ1 S = .ok d' ρ2 S2 f ∧ wipeS ρ2 vs = ρw ∧ I S2 ∧ P d d') → I S →
    ∃ ys S', compM vs g cYes c ds acc ρw S = .ok (acc ++ ys) ρw S' false ∧ I S' ∧ Paired P ds ys
  | [], acc, S, _, _, i => ⟨[], S, by simp [compM], i, .nil⟩
  | d :: ds, acc, S, hl, h, i => by
    obtain ⟨ρ1, d', ρ2, S2, f, e1, e2, e3, i2, p⟩ := h d (by simp) S i
    have hl' : acc.length + (ds.length + 1) ≤ sizeLine := hl
    obtain ⟨ys, S', e4, i4, ps⟩ := compM_all (g := g) (c := c) I P ds (acc ++ [d']) S2 (by rw [List.length_append, List.length_singleton]; omega) (fun d hd => h d (by simp [hd])) i2
    refine ⟨d' :: ys, S', ?_, i4, .cons p ps⟩
    rw [compM]
    simp only [e1, cYes, e2, e3]
    rw [if_pos (by omega), e4]
    simp
/-- with a test: pure, by f (what is made) and w (whether it is taken) -/
theorem compM_pure {vs : List Nat} {g : Tgt} {t : M Bool} {c : M Rv} {ρw S : List Sl} (w : D → Bool) (f : D → D) : ∀ (ds acc : List D), acc.length + ds.length ≤ sizeLine →
    (∀ d ∈ ds, ∃ ρ1 ρ2 k, bindT g d ρw = some ρ1 ∧ t ρ1 S = .ok (w d) ρ2 S k ∧ wipeS ρ2 vs = ρw ∧ (w d = true → ∃ ρ3 k2, cD c ρ2 S = .ok (f d) ρ3 S k2 ∧ wipeS ρ3 vs = ρw)) →
    compM vs g t c ds acc ρw S = .ok (acc ++ (ds.filter w).map f) ρw S false
  | [], acc, _, _ => by simp [compM]
  | d :: ds, acc, hl, h => by
    obtain ⟨ρ1, ρ2, k, e1, e2, e3, ht⟩ := h d (by simp)
    have hl' : acc.length + (ds.length + 1) ≤ sizeLine := hl
    rw [compM]
    cases hw : w d with
    | true =>
      obtain ⟨ρ3, k2, e4, e5⟩ := ht hw
      rw [hw] at e2
      simp only [e1, e2, e4, e5]
      rw [if_pos (by omega), compM_pure w f ds (acc ++ [f d]) (by rw [List.length_append, List.length_singleton]; omega) (fun d hd => h d (by simp [hd]))]
      simp [List.filter_cons, hw]
    | false =>
      rw [hw] at e2
      simp only [e1, e2, e3]
      rw [compM_pure w f ds acc (by omega) (fun d hd => h d (by simp [hd]))]
      simp [List.filter_cons, hw]
/-! ### walks -/
def itsR (d : D) (ρ S : List Sl) : Res (List D) := match d.its with
  | some ds => .ok ds ρ S false
  | none => .bad
theorem ap_its (c : M Rv) (ρ S : List Sl) : cIts c ρ S = (cD c ρ S).bind itsR := rfl
theorem itsR_str (z : Str) (ρ S : List Sl) : itsR (.str z) ρ S = .ok (signsD z) ρ S false := rfl
theorem itsR_lst (xs : List D) (ρ S : List Sl) : itsR (.lst xs) ρ S = .ok xs ρ S false := rfl
theorem itsR_kl (xs : List D) (ρ S : List Sl) : itsR (.kl xs) ρ S = .ok xs ρ S false := rfl
theorem itsR_tup (xs : List D) (ρ S : List Sl) : itsR (.tup xs) ρ S = .ok xs ρ S false := rfl
def rng1R (ds : List D) (ρ S : List Sl) : Res (List D) := match ds with
  | [.int j] => if -(2 ^ 62) ≤ j ∧ j < 2 ^ 62 then .ok (rangeD 0 j.toNat) ρ S false else .bad
  | _ => .bad
theorem ap_rng1 (cs : M (List D)) (ρ S : List Sl) : cRng1 cs ρ S = (cs ρ S).bind rng1R := rfl
theorem rng1R_ok {j : Int} {ρ S : List Sl} (h : -(2 ^ 62) ≤ j) (h2 : j < 2 ^ 62) : rng1R [.int j] ρ S = .ok (rangeD 0 j.toNat) ρ S false := if_pos ⟨h, h2⟩
def rng2R (ds : List D) (ρ S : List Sl) : Res (List D) := match ds with
  | [.int i, .int j] => if -(2 ^ 62) ≤ i ∧ i < 2 ^ 62 ∧ -(2 ^ 62) ≤ j ∧ j < 2 ^ 62 then .ok (rangeD i (j - i).toNat) ρ S false else .bad
  | _ => .bad
theorem ap_rng2 (cs : M (List D)) (ρ S : List Sl) : cRng2 cs ρ S = (cs ρ S).bind rng2R := rfl
theorem rng2R_ok {i j : Int} {ρ S : List Sl} (h1 : -(2 ^ 62) ≤ i) (h2 : i < 2 ^ 62) (h3 : -(2 ^ 62) ≤ j) (h4 : j < 2 ^ 62) : rng2R [.int i, .int j] ρ S = .ok (rangeD i (j - i).toNat) ρ S false := if_pos ⟨h1, h2, h3, h4⟩
theorem rangeD_mem {lo : Int} {n : Nat} {d : D} (h : d ∈ rangeD lo n) : ∃ i : Nat, i < n ∧ d = .int (lo + i) := by
  unfold rangeD at h
  obtain ⟨i, hi, rfl⟩ := List.mem_map.mp h
  exact ⟨i, List.mem_range.mp hi, rfl⟩
theorem rangeD_len (lo : Int) (n : Nat) : (rangeD lo n).length = n := by simp [rangeD]
theorem bindT_nm {i : Nat} {d : D} {ρ : List Sl} (h : i < ρ.length) : bindT (.nm i) d ρ = some (ρ.set i (.val d)) := if_pos h
/-! ### slices -/
def part1 (r : Rv) : M (Option Int) := fun ρ S => match (cont ρ S r).bind partD with
  | some o => .ok o ρ S false
  | none => .bad
theorem ap_part (c : M Rv) (ρ S : List Sl) : cPart c ρ S = (c ρ S).bind part1 := rfl
theorem part1_int (i : Int) (ρ S : List Sl) : part1 (.d (.int i)) ρ S = .ok (some i) ρ S false := rfl
theorem ap_noP (ρ S : List Sl) : cNoP ρ S = .ok none ρ S false := rfl
def sl3 (g : D → Option Int → Option Int → Option Rv) (re : Rv) (lo hi : Option Int) : M Rv := fun ρ S => match cont ρ S re with
  | some d => lift (g d lo hi) ρ S
  | none => .bad
def sl2 (g : D → Option Int → Option Int → Option Rv) (ch : M (Option Int)) (re : Rv) (lo : Option Int) : M Rv := fun ρ S => (ch ρ S).bind (sl3 g re lo)
def sl1 (g : D → Option Int → Option Int → Option Rv) (cl ch : M (Option Int)) (re : Rv) : M Rv := fun ρ S => (cl ρ S).bind (sl2 g ch re)
theorem ap_sl (g : D → Option Int → Option Int → Option Rv) (ce : M Rv) (cl ch : M (Option Int)) (ρ S : List Sl) : cSl g ce cl ch ρ S = (ce ρ S).bind (sl1 g cl ch) := rfl
theorem ap_sl1 (g : D → Option Int → Option Int → Option Rv) (cl ch : M (Option Int)) (re : Rv) (ρ S : List Sl) : sl1 g cl ch re ρ S = (cl ρ S).bind (sl2 g ch re) := rfl
theorem ap_sl2 (g : D → Option Int → Option Int → Option Rv) (ch : M (Option Int)) (re : Rv) (lo : Option Int) (ρ S : List Sl) : sl2 g ch re lo ρ S = (ch ρ S).bind (sl3 g re lo) := rfl
theorem sl3_ok {g : D → Option Int → Option Int → Option Rv} {re : Rv} {lo hi : Option Int} {ρ S : List Sl} {d : D} (h : cont ρ S re = some d) : sl3 g re lo hi ρ S = lift (g d lo hi) ρ S := by
  unfold sl3
  rw [h]
theorem cut_kl (xs : List D) (lo hi : Option Int) : oCut (.kl xs) lo hi = some (.fr (.lst (cutD xs lo hi))) := rfl
theorem cut_lst (xs : List D) (lo hi : Option Int) : oCut (.lst xs) lo hi = some (.fr (.lst (cutD xs lo hi))) := rfl
theorem cut_str {z : Str} (h : z.length ≤ sizeLine) (lo hi : Option Int) : oCut (.str z) lo hi = some (.d (.str (cutS z lo hi))) := by
  show (none : Option Rv).or (if z.length ≤ sizeLine then some (.d (.str (cutS z lo hi))) else none) = _
  rw [if_pos h]
  rfl
/-! ### values' and, or, not; methods; the store -/
def truK (o : Option Bool) (a b : M Rv) : M Rv := fun ρ S => match o with
  | some true => a ρ S
  | some false => b ρ S
  | none => .bad
def okR (r : Rv) : M Rv := fun ρ S => .ok r ρ S false
theorem ap_okR (r : Rv) (ρ S : List Sl) : okR r ρ S = .ok r ρ S false := rfl
theorem truK_t (a b : M Rv) (ρ S : List Sl) : truK (some true) a b ρ S = a ρ S := rfl
theorem truK_f (a b : M Rv) (ρ S : List Sl) : truK (some false) a b ρ S = b ρ S := rfl
def and1 (cb : M Rv) (ra : Rv) : M Rv := fun ρ S => truK ((cont ρ S ra).bind truD) cb (okR ra) ρ S
def or1 (cb : M Rv) (ra : Rv) : M Rv := fun ρ S => truK ((cont ρ S ra).bind truD) (okR ra) cb ρ S
theorem ap_and (ca cb : M Rv) (ρ S : List Sl) : cAnd ca cb ρ S = (ca ρ S).bind (and1 cb) := rfl
theorem ap_and1 (cb : M Rv) (ra : Rv) (ρ S : List Sl) : and1 cb ra ρ S = truK ((cont ρ S ra).bind truD) cb (okR ra) ρ S := rfl
theorem ap_or (ca cb : M Rv) (ρ S : List Sl) : cOr ca cb ρ S = (ca ρ S).bind (or1 cb) := rfl
theorem ap_or1 (cb : M Rv) (ra : Rv) (ρ S : List Sl) : or1 cb ra ρ S = truK ((cont ρ S ra).bind truD) (okR ra) cb ρ S := rfl
def notV (o : Option Bool) (ρ S : List Sl) : Res Rv := match o with
  | some b => .ok (.d (.bl (!b))) ρ S false
  | none => .bad
def not1 (ra : Rv) : M Rv := fun ρ S => notV ((cont ρ S ra).bind truD) ρ S
theorem ap_not (ca : M Rv) (ρ S : List Sl) : cNot ca ρ S = (ca ρ S).bind not1 := rfl
theorem ap_not1 (ra : Rv) (ρ S : List Sl) : not1 ra ρ S = notV ((cont ρ S ra).bind truD) ρ S := rfl
theorem notV_ok (b : Bool) (ρ S : List Sl) : notV (some b) ρ S = .ok (.d (.bl (!b))) ρ S false := rfl
theorem ap_sto (i : Nat) (c : M Rv) (ρ S : List Sl) : cSto i c ρ S = (c ρ S).bind (setSto i) := rfl
theorem setSto_ok' {i : Nat} {xs : List D} {ρ S : List Sl} (h : i < ρ.length) : setSto i (.fr (.lst xs)) ρ S = .ok .nx (ρ.set i (.val (.ob S.length))) (S ++ [.lst xs]) false := by
  unfold setSto
  simp only
  rw [if_pos ⟨h, rfl⟩]
end DV

/-! DVt: the laws' helpers, worked out. -/
namespace DV
open PySem PySem.Spec PyProof.Rows L2
theorem le_line {n : Nat} (h : n ≤ 1000) : n ≤ sizeLine := Nat.le_trans h (by decide)
local macro_rules
  | `(tactic| simp_arith [$ts,*]) => `(tactic| simp only [ap_def, env0, List.map_cons, List.map_nil, List.length_cons, List.length_nil, List.replicate, Nat.reduceAdd, Nat.reduceSub, List.cons_append, List.nil_append,
    ap_seq, ap_put, ap_D, ap_bin, ap_name, List.getElem?_cons_zero, List.getElem?_cons_succ, nameR_val, nameR_lst, Res.bind_ok, ap_bin1, ap_C, ap_bin2, cont_ob0, cont_int, cont_bl, cont_str, cont_non, cont_ty, cont_lst, cont_kl, cont_tup, cont_kt, cont_fr, cont_env, rd_lst, obind_some,
    two_ok, ev_get_lst, ev_get_tup, atI_nn, Int.reduceLE, Int.reduceToNat, omap_some, lift_some, addt_ok, Bool.or_false, Bool.or_self, ev_add_int, ev_sub_int, toD_d, toD_fr, frz_lst, ap_put1, ap_put2, ap_put3, getP_ob0, putR_at, Int.reduceLT, List.set_cons_succ, List.set_cons_zero,
    seqR_nx, ap_ifS, ap_andB, ap_orB, ap_notB, ap_notR, ap_tst, ev_eq_int, ev_ne_int, tstR_ok, ap_andB1, ap_orB1, decide_false, decide_true, Bool.not_true, Bool.not_false, pickM_f, pickM_t, ap_okB, ap_ifS1, ap_nx, ev_gt_int, ev_ge_int, ev_lt_int, ev_le_int,
    ap_set, ap_set1, setR_ok, ap_blt, ap_consR, ap_nilR, ap_consD, ap_nilD, ap_cons1, ap_consT, ap_blt1, conts_cons, conts_nil, cons2_some, one_ok, ev_gint_int, ev_gabs_int, ev_len_lst, ev_mod_int, ev_fdiv_int, ap_ret, ap_ret1, outR_d, outR_fr, ap_rtR, seqR_rt, endM_rt, endM_nx, Nat.reduceLT,
    ap_call, ap_call1, at_ok, ap_tup, ap_lst, ap_tru, ap_tru1, truR_ok, truD_bl, ap_neg, ap_neg1, negR_ok, ap_for, forR_ok, ap_its, itsR_str, itsR_lst, itsR_kl, itsR_tup, ap_rng1, ap_rng2, ap_part, part1_int, ap_noP, ap_sl, ap_sl1, ap_sl2, sl3_ok (cont_kl _ _ _), sl3_ok (cont_str _ _ _), sl3_ok (cont_lst _ _ _), cut_kl, cut_lst, ap_and, ap_and1, ap_or, ap_or1, truK_t, truK_f, ap_okR, ap_not, ap_not1, notV_ok, ap_sto, setSto_ok', ap_lc, lst1_ok, tup1_ok, le_line, Nat.reduceLeDiff, $ts,*])
theorem cut_ints (ns : List Int) (lo hi : Option Int) : ∃ xs : List Int, cutD (ns.map .int) lo hi = xs.map .int := by
  unfold cutD
  rw [← List.map_drop, ← List.map_take]
  exact ⟨_, rfl⟩
theorem ev_glist_lst (xs : List D) : gList [.lst xs] = some (.fr (.lst xs)) := rfl
theorem ev_glist_kl (xs : List D) : gList [.kl xs] = some (.fr (.lst xs)) := rfl
theorem open_ok (ns : List Int) (S : List Sl) : ∃ b, Bag (.lst b) ∧ openM [.kl (ns.map .int)] S = .ok (.fr (.lst b)) [] S false := by
  obtain ⟨xs, hx⟩ := cut_ints ns none (some 63)
  have e : ∀ a k : Int, k.natAbs < 2 ^ 64 → oMul (.int a) (.int k) = some (.d (.int (a * k))) := fun a k h => ev_mul_r h
  have loop : ∃ ρ' S', forM (.nm 2) (cSet false 1 (cBin oMod (cBlt gInt (cConsR (cBin oAdd (cBin oAdd (cBin oMul (cName 1) (cC (.int 52361))) (cBin oMul (cBin oMod (cBlt gInt (cConsR (cName 2) cNilR)) (cC (.int 1000303))) (cC (.int 877)))) (cC (.int 37))) cNilR)) (cC (.int 2147483587)))) (xs.map .int) [.val (.kl (ns.map .int)), .val (.int 12025), .emp] S = .ok .nx ρ' S' false ∧
      ∃ m s, ρ' = [.val (.kl (ns.map .int)), .val (.int m), s] ∧ S' = S ∧ 0 ≤ m ∧ m < 2147483648 := by
    refine forM_nx (fun ρ S' => ∃ m s, ρ = [.val (.kl (ns.map .int)), .val (.int m), s] ∧ S' = S ∧ 0 ≤ m ∧ m < 2147483648) _ _ _ ?_ ⟨12025, .emp, rfl, rfl, by decide, by decide⟩
    rintro d hd ρ S1 ⟨m, s, rfl, rfl, h1, h2⟩
    obtain ⟨x, hx, rfl⟩ := List.mem_map.mp hd
    refine ⟨_, _, _, _, bindT_nm (by simp), by (simp_arith [e _ 52361 (by decide), e _ 877 (by decide)]; rfl), _, _, rfl, rfl, ?_, ?_⟩
    · exact Int.emod_nonneg _ (by decide)
    · exact Int.lt_trans (Int.emod_lt_of_pos _ (by decide)) (by decide)
  obtain ⟨ρ', S', e1, m, s, rfl, rfl, h1, h2⟩ := loop
  refine ⟨[.lst (xs.map .int), .int 0, .int 0, .int m, .int 0], ⟨xs, 0, 0, m, 0, rfl, by decide, by decide, h1, h2⟩, ?_⟩
  simp_arith [openM, openC, hx, e1, ev_glist_lst]

/-! ### picking -/
def consO {α : Type} : Option α → List α → List α
  | some x, l => x :: l
  | none, l => l
theorem pick_nil {α : Type} (xs : List α) : pick [] xs = [] := rfl
theorem pick_cons {α : Type} (i : Nat) (is : List Nat) (xs : List α) : pick (i :: is) xs = consO xs[i]? (pick is xs) := by
  unfold pick
  rw [List.filterMap_cons]
  cases xs[i]? <;> rfl
theorem consO_some {α : Type} (x : α) (l : List α) : consO (some x) l = x :: l := rfl
/-! ### one of some things -/
abbrev cb2 : List D → List D → List D := fun ds es => pick [0, 1] (ds ++ es)
def ofC : M Fl := (cRet (cBin oGet (cName 1) (cCall drawM 2 0 cb2 (cConsD (cName 0) (cConsD (cBlt gLen (cConsR (cName 1) cNilR)) cNilD)) cNilD)))
def ofM : List D → List Sl → Res Rv := defM 2 ofC
theorem ev_len_str {z : Str} (h : z.length ≤ sizeLine) : gLen [.str z] = some (.d (.int z.length)) := by
  show (gLenS [.str z]).or _ = _
  unfold gLenS
  simp only
  rw [if_pos h]
  rfl
theorem ev_get_str {z : Str} (h : z.length ≤ sizeLine) (i : Int) : oGet (.str z) (.int i) = (atI z.cps.toList i).map fun c => .d (.str ⟨#[c]⟩) := by
  show ((if z.length ≤ sizeLine then (atI z.cps.toList i).map fun c => Rv.d (.str ⟨#[c]⟩) else none) : Option Rv).or (oIxD (.str z) (.int i)) = _
  rw [if_pos h]
  show (_ : Option Rv).or none = _
  cases (atI z.cps.toList i) <;> rfl
theorem Bag.of_lst {b : Sl} (h : Bag b) {ds : List D} (h0 : 0 < ds.length) (h1 : ds.length < 1000) : ∃ d b', d ∈ ds ∧ Bag b' ∧ ∀ rest, ofM [.ob 0, .lst ds] (b :: rest) = .ok (.d d) [] (b' :: rest) false := by
  obtain ⟨v, b', v0, v1, hb, e⟩ := h.draw (n := (ds.length : Int)) (by omega) (by omega)
  have hv : v.toNat < ds.length := by omega
  refine ⟨ds[v.toNat], b', List.getElem_mem hv, hb, fun rest => ?_⟩
  simp_arith [ofM, ofC, callR_ok, pick_cons, pick_nil, consO_some, e rest, v0, List.getElem?_eq_getElem hv, List.append_nil]
theorem Bag.of_str {b : Sl} (h : Bag b) {z : Str} (h0 : 0 < z.length) (h1 : z.length < 1000) : ∃ ch b', ch ∈ z.cps.toList ∧ Bag b' ∧ ∀ rest, ofM [.ob 0, .str z] (b :: rest) = .ok (.d (.str ⟨#[ch]⟩)) [] (b' :: rest) false := by
  obtain ⟨v, b', v0, v1, hb, e⟩ := h.draw (n := (z.length : Int)) (by omega) (by omega)
  have hz : z.length ≤ sizeLine := le_line (by omega)
  have hl : z.cps.toList.length = z.length := by simp [Str.length]
  have hv : v.toNat < z.cps.toList.length := by omega
  refine ⟨z.cps.toList[v.toNat], b', List.getElem_mem hv, hb, fun rest => ?_⟩
  simp_arith [ofM, ofC, callR_ok, pick_cons, pick_nil, consO_some, e rest, v0, List.getElem?_eq_getElem hv, List.append_nil, ev_len_str hz, ev_get_str hz]

/-! ### methods -/
def mt3 (g : D → List D → Option Rv) (a : Option D) (b : Option (List D)) (ρ S : List Sl) : Res Rv := match a, b with
  | some d, some ds => lift (g d ds) ρ S
  | _, _ => .bad
def mt2 (g : D → List D → Option Rv) (ro : Rv) (rs : List Rv) : M Rv := fun ρ S => mt3 g (cont ρ S ro) (conts ρ S rs) ρ S
def mt1 (T : String) (g : D → List D → Option Rv) (cs : M (List Rv)) (ro : Rv) : M Rv := fun ρ S => match cont ρ S ro with
  | some d0 => if tyD T d0 = true then (cs ρ S).bind (mt2 g ro) else .bad
  | none => .bad
theorem ap_mt (T : String) (g : D → List D → Option Rv) (co : M Rv) (cs : M (List Rv)) (ρ S : List Sl) : cMt T g co cs ρ S = (co ρ S).bind (mt1 T g cs) := rfl
theorem mt1_str {g : D → List D → Option Rv} {cs : M (List Rv)} {z : Str} {ρ S : List Sl} : mt1 "str" g cs (.d (.str z)) ρ S = (cs ρ S).bind (mt2 g (.d (.str z))) := rfl
theorem ap_mt2 (g : D → List D → Option Rv) (ro : Rv) (rs : List Rv) (ρ S : List Sl) : mt2 g ro rs ρ S = mt3 g (cont ρ S ro) (conts ρ S rs) ρ S := rfl
theorem mt3_ok (g : D → List D → Option Rv) (d : D) (ds : List D) (ρ S : List Sl) : mt3 g (some d) (some ds) ρ S = lift (g d ds) ρ S := rfl
def catS : List Nat → Str := fun cs => ⟨cs.toArray⟩
theorem join_one : ∀ cs : List Nat, (Str.join "" (cs.map fun c => ⟨#[c]⟩)).cps.toList = cs
  | [] => rfl
  | [c] => rfl
  | c :: d :: r => by
    have ih := join_one (d :: r)
    show ((⟨#[c]⟩ ++ "" ++ Str.join "" ((d :: r).map fun c => ⟨#[c]⟩) : Str)).cps.toList = _
    have e : ∀ x y : Str, (x ++ y).cps.toList = x.cps.toList ++ y.cps.toList := fun x y => by
      show (x.cps ++ y.cps).toList = _
      simp
    rw [e, e, ih]
    rfl
theorem join_cat (cs : List Nat) : Str.join "" (cs.map fun c => ⟨#[c]⟩) = catS cs := by
  have h := join_one cs
  unfold catS
  generalize Str.join "" (cs.map fun c => (⟨#[c]⟩ : Str)) = x at h
  obtain ⟨a⟩ := x
  have h : a.toList = cs := h
  subst h
  simp
theorem strs_one : ∀ cs : List Nat, strsD (cs.map fun c => .str ⟨#[c]⟩) = some (cs.map fun c => ⟨#[c]⟩)
  | [] => rfl
  | c :: cs => by
    rw [List.map_cons, List.map_cons, strsD, strs_one cs]
    rfl
theorem ev_join {cs : List Nat} (h : cs.length ≤ 1000) : gJoin (.str "") [.lst (cs.map fun c => .str ⟨#[c]⟩)] = some (.d (.str (catS cs))) := by
  unfold gJoin
  show ((some (cs.map fun c => D.str ⟨#[c]⟩)).bind strsD).bind _ = _
  rw [Option.bind_some, strs_one, Option.bind_some]
  have e1 : ((cs.map fun c => (⟨#[c]⟩ : Str)).map (·.length)).sum = cs.length := by
    rw [List.map_map]
    induction cs with
    | nil => rfl
    | cons c r ih =>
      have := ih (by simp at h; omega)
      rw [List.map_cons, List.sum_cons, this, List.length_cons]
      show 1 + _ = _
      omega
  have e2 : (("" : Str).length) = 0 := rfl
  rw [if_pos (by rw [e1, e2]; omega)]
  rw [TL.join_eq, join_cat]
theorem signs_of {zl : List Nat} : ∀ {ds ys : List D}, Paired (fun _ d' => ∃ c, c ∈ zl ∧ d' = D.str ⟨#[c]⟩) ds ys → ∃ cs : List Nat, ys = cs.map (fun c => .str ⟨#[c]⟩) ∧ cs.length = ds.length ∧ ∀ c ∈ cs, c ∈ zl
  | _, _, .nil => ⟨[], rfl, rfl, fun c h => by cases h⟩
  | _, _, .cons ⟨c, hc, e⟩ t => by
    obtain ⟨cs, e1, e2, e3⟩ := signs_of t
    subst e e1
    refine ⟨c :: cs, rfl, by simp [e2], fun x hx => ?_⟩
    rcases List.mem_cons.mp hx with y | y
    · subst y; exact hc
    · exact e3 x y
/-- ''.join([of(bag, z) for k in range(draw(bag, n))]) -/
theorem Bag.word {b : Sl} (h : Bag b) {z : Str} {n : Int} {i k : Nat} {ρ rest : List Sl} (h0 : 0 < z.length) (h1 : z.length < 1000) (n0 : 0 < n) (n1 : n < 1000) (hi : ρ[i]? = some (.val (.ob 0))) (hk : k < ρ.length) (hki : k ≠ i) :
    ∃ cs b' t, Bag b' ∧ (cs.length : Int) < n ∧ (∀ c ∈ cs, c ∈ z.cps.toList) ∧ cMt "str" gJoin (cC (.str "")) (cConsR (cLc (cRng1 (cConsD (cCall drawM 2 0 cb2 (cConsD (cName i) (cConsD (cC (.int n)) cNilD)) cNilD) cNilD)) [k] (.nm k) cYes (cCall ofM 2 0 cb2 (cConsD (cName i) (cConsD (cC (.str z)) cNilD)) cNilD)) cNilR) ρ (b :: rest)
      = .ok (.d (.str (catS cs))) (ρ.set k .emp) (b' :: rest) t := by
  obtain ⟨v, b1, v0, v1, hb1, e1⟩ := h.draw (n := n) n0 (by omega)
  have step : ∀ d ∈ rangeD 0 v.toNat, ∀ S, (∃ b', Bag b' ∧ S = b' :: rest) → ∃ ρ1 d' ρ2 S2 f, bindT (.nm k) d (ρ.set k .emp) = some ρ1 ∧ cD (cCall ofM 2 0 cb2 (cConsD (cName i) (cConsD (cC (.str z)) cNilD)) cNilD) ρ1 S = .ok d' ρ2 S2 f ∧ wipeS ρ2 [k] = ρ.set k .emp ∧ (∃ b', Bag b' ∧ S2 = b' :: rest) ∧ ∃ c, c ∈ z.cps.toList ∧ d' = D.str ⟨#[c]⟩ := by
    rintro d hd S ⟨b', hb', rfl⟩
    obtain ⟨ch, b2, hc, hb2, e2⟩ := hb'.of_str h0 h1
    refine ⟨(ρ.set k .emp).set k (.val d), .str ⟨#[ch]⟩, (ρ.set k .emp).set k (.val d), b2 :: rest, false, bindT_nm (by rw [List.length_set]; exact hk), ?_, ?_, ⟨b2, hb2, rfl⟩, ch, hc, rfl⟩
    · have hr : ((ρ.set k .emp).set k (.val d))[i]? = some (.val (.ob 0)) := by
        rw [List.getElem?_set_ne hki, List.getElem?_set_ne hki, hi]
      generalize (ρ.set k .emp).set k (.val d) = ρ1 at hr
      simp_arith [hr, callR_ok, pick_cons, pick_nil, consO_some, e2 rest, List.append_nil]
    · show ((ρ.set k .emp).set k (.val d)).set k .emp = ρ.set k .emp
      rw [List.set_set, List.set_set]
  have hv : (rangeD 0 v.toNat).length = v.toNat := rangeD_len _ _
  obtain ⟨ys, S', e3, ⟨b', hb', rfl⟩, ps⟩ := compM_all (vs := [k]) (g := .nm k) (c := cCall ofM 2 0 cb2 (cConsD (cName i) (cConsD (cC (.str z)) cNilD)) cNilD) (ρw := ρ.set k .emp) (fun S => ∃ b', Bag b' ∧ S = b' :: rest) (fun _ d' => ∃ c, c ∈ z.cps.toList ∧ d' = D.str ⟨#[c]⟩)
    (rangeD 0 v.toNat) [] (b1 :: rest) (by rw [hv]; exact le_line (by simp; omega)) step ⟨b1, hb1, rfl⟩
  obtain ⟨cs, rfl, l1, l2⟩ := signs_of ps
  rw [hv] at l1
  refine ⟨cs, b', true, hb', by omega, l2, ?_⟩
  have e4 : lcR [k] (.nm k) cYes (cCall ofM 2 0 cb2 (cConsD (cName i) (cConsD (cC (.str z)) cNilD)) cNilD) (.ok (rangeD 0 v.toNat) ρ (b1 :: rest) false) = .ok (.fr (.lst (cs.map fun c => .str ⟨#[c]⟩))) (ρ.set k .emp) (b' :: rest) true := lcR_ok e3
  have e5 := ev_join (cs := cs) (by omega)
  have r1 : ∀ ρ S, rng1R [.int v] ρ S = .ok (rangeD 0 v.toNat) ρ S false := fun ρ S => rng1R_ok (by omega) (by omega)
  simp_arith [ap_mt, mt1_str, ap_mt2, mt3_ok, hi, callR_ok, pick_cons, pick_nil, consO_some, e1 rest, List.append_nil, r1, e4, e5, Bool.or_true, Bool.true_or]
end DV

/-! DVu: isinstance, is, == worked out; the law's comparison. -/
namespace DV
open PySem PySem.Spec PyProof.Rows L2
theorem isi_non_int (ow) : gIsi ow [.non, .ty "int"] = some (.d (.bl false)) := rfl
theorem isi_non_bool (ow) : gIsi ow [.non, .ty "bool"] = some (.d (.bl false)) := rfl
theorem isi_non_str (ow) : gIsi ow [.non, .ty "str"] = some (.d (.bl false)) := rfl
theorem isi_non_list (ow) : gIsi ow [.non, .ty "list"] = some (.d (.bl false)) := rfl
theorem isi_non_tuple (ow) : gIsi ow [.non, .ty "tuple"] = some (.d (.bl false)) := rfl
theorem isi_non_seq (ow) : gIsi ow [.non, .tup [.ty "list", .ty "tuple"]] = some (.d (.bl false)) := rfl
theorem isi_bl_int (ow) (a : Bool) : gIsi ow [(.bl a), .ty "int"] = some (.d (.bl true)) := rfl
theorem isi_bl_bool (ow) (a : Bool) : gIsi ow [(.bl a), .ty "bool"] = some (.d (.bl true)) := rfl
theorem isi_bl_str (ow) (a : Bool) : gIsi ow [(.bl a), .ty "str"] = some (.d (.bl false)) := rfl
theorem isi_bl_list (ow) (a : Bool) : gIsi ow [(.bl a), .ty "list"] = some (.d (.bl false)) := rfl
theorem isi_bl_tuple (ow) (a : Bool) : gIsi ow [(.bl a), .ty "tuple"] = some (.d (.bl false)) := rfl
theorem isi_bl_seq (ow) (a : Bool) : gIsi ow [(.bl a), .tup [.ty "list", .ty "tuple"]] = some (.d (.bl false)) := rfl
theorem isi_int_int (ow) (a : Int) : gIsi ow [(.int a), .ty "int"] = some (.d (.bl true)) := rfl
theorem isi_int_bool (ow) (a : Int) : gIsi ow [(.int a), .ty "bool"] = some (.d (.bl false)) := rfl
theorem isi_int_str (ow) (a : Int) : gIsi ow [(.int a), .ty "str"] = some (.d (.bl false)) := rfl
theorem isi_int_list (ow) (a : Int) : gIsi ow [(.int a), .ty "list"] = some (.d (.bl false)) := rfl
theorem isi_int_tuple (ow) (a : Int) : gIsi ow [(.int a), .ty "tuple"] = some (.d (.bl false)) := rfl
theorem isi_int_seq (ow) (a : Int) : gIsi ow [(.int a), .tup [.ty "list", .ty "tuple"]] = some (.d (.bl false)) := rfl
theorem isi_str_int (ow) (a : Str) : gIsi ow [(.str a), .ty "int"] = some (.d (.bl false)) := rfl
theorem isi_str_bool (ow) (a : Str) : gIsi ow [(.str a), .ty "bool"] = some (.d (.bl false)) := rfl
theorem isi_str_str (ow) (a : Str) : gIsi ow [(.str a), .ty "str"] = some (.d (.bl true)) := rfl
theorem isi_str_list (ow) (a : Str) : gIsi ow [(.str a), .ty "list"] = some (.d (.bl false)) := rfl
theorem isi_str_tuple (ow) (a : Str) : gIsi ow [(.str a), .ty "tuple"] = some (.d (.bl false)) := rfl
theorem isi_str_seq (ow) (a : Str) : gIsi ow [(.str a), .tup [.ty "list", .ty "tuple"]] = some (.d (.bl false)) := rfl
theorem isi_lst_int (ow) (a : List D) : gIsi ow [(.lst a), .ty "int"] = some (.d (.bl false)) := rfl
theorem isi_lst_bool (ow) (a : List D) : gIsi ow [(.lst a), .ty "bool"] = some (.d (.bl false)) := rfl
theorem isi_lst_str (ow) (a : List D) : gIsi ow [(.lst a), .ty "str"] = some (.d (.bl false)) := rfl
theorem isi_lst_list (ow) (a : List D) : gIsi ow [(.lst a), .ty "list"] = some (.d (.bl true)) := rfl
theorem isi_lst_tuple (ow) (a : List D) : gIsi ow [(.lst a), .ty "tuple"] = some (.d (.bl false)) := rfl
theorem isi_lst_seq (ow) (a : List D) : gIsi ow [(.lst a), .tup [.ty "list", .ty "tuple"]] = some (.d (.bl true)) := rfl
theorem isi_kl_int (ow) (a : List D) : gIsi ow [(.kl a), .ty "int"] = some (.d (.bl false)) := rfl
theorem isi_kl_bool (ow) (a : List D) : gIsi ow [(.kl a), .ty "bool"] = some (.d (.bl false)) := rfl
theorem isi_kl_str (ow) (a : List D) : gIsi ow [(.kl a), .ty "str"] = some (.d (.bl false)) := rfl
theorem isi_kl_list (ow) (a : List D) : gIsi ow [(.kl a), .ty "list"] = some (.d (.bl true)) := rfl
theorem isi_kl_tuple (ow) (a : List D) : gIsi ow [(.kl a), .ty "tuple"] = some (.d (.bl false)) := rfl
theorem isi_kl_seq (ow) (a : List D) : gIsi ow [(.kl a), .tup [.ty "list", .ty "tuple"]] = some (.d (.bl true)) := rfl
theorem isi_tup_int (ow) (a : List D) : gIsi ow [(.tup a), .ty "int"] = some (.d (.bl false)) := rfl
theorem isi_tup_bool (ow) (a : List D) : gIsi ow [(.tup a), .ty "bool"] = some (.d (.bl false)) := rfl
theorem isi_tup_str (ow) (a : List D) : gIsi ow [(.tup a), .ty "str"] = some (.d (.bl false)) := rfl
theorem isi_tup_list (ow) (a : List D) : gIsi ow [(.tup a), .ty "list"] = some (.d (.bl false)) := rfl
theorem isi_tup_tuple (ow) (a : List D) : gIsi ow [(.tup a), .ty "tuple"] = some (.d (.bl true)) := rfl
theorem isi_tup_seq (ow) (a : List D) : gIsi ow [(.tup a), .tup [.ty "list", .ty "tuple"]] = some (.d (.bl true)) := rfl
theorem isi_kt_int (ow) (a : List D) : gIsi ow [(.kt a), .ty "int"] = some (.d (.bl false)) := rfl
theorem isi_kt_bool (ow) (a : List D) : gIsi ow [(.kt a), .ty "bool"] = some (.d (.bl false)) := rfl
theorem isi_kt_str (ow) (a : List D) : gIsi ow [(.kt a), .ty "str"] = some (.d (.bl false)) := rfl
theorem isi_kt_list (ow) (a : List D) : gIsi ow [(.kt a), .ty "list"] = some (.d (.bl false)) := rfl
theorem isi_kt_tuple (ow) (a : List D) : gIsi ow [(.kt a), .ty "tuple"] = some (.d (.bl true)) := rfl
theorem isi_kt_seq (ow) (a : List D) : gIsi ow [(.kt a), .tup [.ty "list", .ty "tuple"]] = some (.d (.bl true)) := rfl
theorem isF_non : oIs false .non .non = some (.d (.bl true)) := rfl
theorem isX_non : oIs true .non .non = some (.d (.bl false)) := rfl
theorem isF_bl (a : Bool) : oIs false (.bl a) .non = some (.d (.bl false)) := rfl
theorem isX_bl (a : Bool) : oIs true (.bl a) .non = some (.d (.bl true)) := rfl
theorem isF_int (a : Int) : oIs false (.int a) .non = some (.d (.bl false)) := rfl
theorem isX_int (a : Int) : oIs true (.int a) .non = some (.d (.bl true)) := rfl
theorem isF_str (a : Str) : oIs false (.str a) .non = some (.d (.bl false)) := rfl
theorem isX_str (a : Str) : oIs true (.str a) .non = some (.d (.bl true)) := rfl
theorem isF_lst (a : List D) : oIs false (.lst a) .non = some (.d (.bl false)) := rfl
theorem isX_lst (a : List D) : oIs true (.lst a) .non = some (.d (.bl true)) := rfl
theorem isF_tup (a : List D) : oIs false (.tup a) .non = some (.d (.bl false)) := rfl
theorem isX_tup (a : List D) : oIs true (.tup a) .non = some (.d (.bl true)) := rfl
theorem isF_kt (a : List D) : oIs false (.kt a) .non = some (.d (.bl false)) := rfl
theorem isX_kt (a : List D) : oIs true (.kt a) .non = some (.d (.bl true)) := rfl
theorem isF_kl (a : List D) : oIs false (.kl a) .non = some (.d (.bl false)) := rfl
theorem isX_kl (a : List D) : oIs true (.kl a) .non = some (.d (.bl true)) := rfl
theorem vbl_eq (a b : Bool) : decide (V.bl a = V.bl b) = (a == b) := by cases a <;> cases b <;> simp
theorem vstr_eq (a b : Str) : decide (V.str a = V.str b) = decide (a = b) := by
  by_cases h : a = b
  · subst h; simp
  · have h2 : ¬ V.str a = V.str b := fun z => h (by cases z; rfl)
    simp [h, h2]
theorem ev_eq_bl (a b : Bool) : oEq false (.bl a) (.bl b) = some (.d (.bl (a == b))) := by
  show some (Rv.d (.bl (false != decide (V.bl a = V.bl b)))) = _
  rw [vbl_eq]
  simp
theorem ev_ne_bl (a b : Bool) : oEq true (.bl a) (.bl b) = some (.d (.bl (!(a == b)))) := by
  show some (Rv.d (.bl (true != decide (V.bl a = V.bl b)))) = _
  rw [vbl_eq]
  simp
theorem ev_eq_str (a b : Str) : oEq false (.str a) (.str b) = some (.d (.bl (decide (a = b)))) := by
  show some (Rv.d (.bl (false != decide (V.str a = V.str b)))) = _
  rw [vstr_eq]
  simp
theorem ev_len_tup (xs : List D) : gLen [.tup xs] = some (.d (.int xs.length)) := rfl
theorem ev_len_kt (xs : List D) : gLen [.kt xs] = some (.d (.int xs.length)) := rfl
local macro_rules
  | `(tactic| simp_arith [$ts,*]) => `(tactic| simp only [ap_def, env0, List.map_cons, List.map_nil, List.length_cons, List.length_nil, List.replicate, Nat.reduceAdd, Nat.reduceSub, List.cons_append, List.nil_append,
    ap_seq, ap_put, ap_D, ap_bin, ap_name, List.getElem?_cons_zero, List.getElem?_cons_succ, nameR_val, nameR_lst, Res.bind_ok, ap_bin1, ap_C, ap_bin2, cont_ob0, cont_int, cont_bl, cont_str, cont_non, cont_ty, cont_lst, cont_kl, cont_tup, cont_kt, cont_fr, cont_env, rd_lst, obind_some,
    two_ok, ev_get_lst, ev_get_tup, atI_nn, Int.reduceLE, Int.reduceToNat, omap_some, lift_some, addt_ok, Bool.or_false, Bool.or_self, ev_add_int, ev_sub_int, toD_d, toD_fr, frz_lst, ap_put1, ap_put2, ap_put3, getP_ob0, putR_at, Int.reduceLT, List.set_cons_succ, List.set_cons_zero,
    seqR_nx, ap_ifS, ap_andB, ap_orB, ap_notB, ap_notR, ap_tst, ev_eq_int, ev_ne_int, tstR_ok, ap_andB1, ap_orB1, decide_false, decide_true, Bool.not_true, Bool.not_false, pickM_f, pickM_t, ap_okB, ap_ifS1, ap_nx, ev_gt_int, ev_ge_int, ev_lt_int, ev_le_int,
    ap_set, ap_set1, setR_ok, ap_blt, ap_consR, ap_nilR, ap_consD, ap_nilD, ap_cons1, ap_consT, ap_blt1, conts_cons, conts_nil, cons2_some, one_ok, ev_gint_int, ev_gabs_int, ev_len_lst, ev_mod_int, ev_fdiv_int, ap_ret, ap_ret1, outR_d, outR_fr, ap_rtR, seqR_rt, endM_rt, endM_nx, Nat.reduceLT,
    ap_call, ap_call1, at_ok, ap_tup, ap_lst, ap_tru, ap_tru1, truR_ok, truD_bl, ap_neg, ap_neg1, negR_ok, ap_for, forR_ok, ap_its, itsR_str, itsR_lst, itsR_kl, itsR_tup, ap_rng1, ap_rng2, ap_part, part1_int, ap_noP, ap_sl, ap_sl1, ap_sl2, sl3_ok (cont_kl _ _ _), sl3_ok (cont_str _ _ _), sl3_ok (cont_lst _ _ _), cut_kl, cut_lst, ap_and, ap_and1, ap_or, ap_or1, truK_t, truK_f, ap_okR, ap_not, ap_not1, notV_ok, ap_sto, setSto_ok', ap_lc, lst1_ok, tup1_ok, isi_non_int, isi_non_bool, isi_non_str, isi_non_list, isi_non_tuple, isi_non_seq, isi_bl_int, isi_bl_bool, isi_bl_str, isi_bl_list, isi_bl_tuple, isi_bl_seq, isi_int_int, isi_int_bool, isi_int_str, isi_int_list, isi_int_tuple, isi_int_seq, isi_str_int, isi_str_bool, isi_str_str, isi_str_list, isi_str_tuple, isi_str_seq, isi_lst_int, isi_lst_bool, isi_lst_str, isi_lst_list, isi_lst_tuple, isi_lst_seq, isi_kl_int, isi_kl_bool, isi_kl_str, isi_kl_list, isi_kl_tuple, isi_kl_seq, isi_tup_int, isi_tup_bool, isi_tup_str, isi_tup_list, isi_tup_tuple, isi_tup_seq, isi_kt_int, isi_kt_bool, isi_kt_str, isi_kt_list, isi_kt_tuple, isi_kt_seq, callR_ok, pick_cons, pick_nil, consO_some, List.append_nil, ap_mt, mt1_str, ap_mt2, mt3_ok, Bool.or_true, Bool.true_or, isF_non, isX_non, isF_bl, isX_bl, isF_int, isX_int, isF_str, isX_str, isF_lst, isX_lst, isF_tup, isX_tup, isF_kt, isX_kt, isF_kl, isX_kl, ev_ne_bl, ev_eq_bl, ev_eq_str, beq_self_eq_true, bne_self_eq_false, ev_len_tup, ev_len_kt, le_line, Nat.reduceLeDiff, $ts,*])
abbrev owN : Nat → Ty → Option Bool := fun _ _ => none
def sameC (rec : List D → List Sl → Res Rv) : M Fl := (cSeq (cIfS (cOrB (cTst (cBin (oIs false) (cName 1) (cC .non))) (cTst (cBin (oIs false) (cName 0) (cC .non)))) (cRet (cAnd (cBin (oIs false) (cName 1) (cC .non)) (cBin (oIs false) (cName 0) (cC .non)))) cNx)
    (cSeq (cIfS (cTru (cBlt (gIsi owN) (cConsR (cName 1) (cConsR (cTup (cConsD (cC (.ty "list")) (cConsD (cC (.ty "tuple")) cNilD))) cNilR)))) (cSeq (cIfS (cOrB (cTst (cBin (oEq true) (cBlt (gIsi owN) (cConsR (cName 0) (cConsR (cC (.ty "list")) cNilR))) (cBlt (gIsi owN) (cConsR (cName 1) (cConsR (cC (.ty "list")) cNilR))))) (cTst (cBin (oEq true) (cBlt (gIsi owN) (cConsR (cName 0) (cConsR (cC (.ty "tuple")) cNilR))) (cBlt (gIsi owN) (cConsR (cName 1) (cConsR (cC (.ty "tuple")) cNilR)))))) (cRet (cC (.bl false))) cNx)
    (cRet (cAnd (cBin (oEq false) (cBlt gLen (cConsR (cName 0) cNilR)) (cBlt gLen (cConsR (cName 1) cNilR))) (cBlt gAll (cConsR (cLc (cZip (cConsD (cName 0) (cConsD (cName 1) cNilD))) [2, 3] (.tp [2, 3]) cYes (cCall rec 2 0 cb2 (cConsD (cName 2) (cConsD (cName 3) cNilD)) cNilD)) cNilR))))) cNx)
    (cSeq (cIfS (cOrB (cTst (cBin (oEq true) (cBlt (gIsi owN) (cConsR (cName 1) (cConsR (cC (.ty "bool")) cNilR))) (cBlt (gIsi owN) (cConsR (cName 0) (cConsR (cC (.ty "bool")) cNilR))))) (cTst (cBin (oEq true) (cBlt (gIsi owN) (cConsR (cName 1) (cConsR (cC (.ty "int")) cNilR))) (cBlt (gIsi owN) (cConsR (cName 0) (cConsR (cC (.ty "int")) cNilR)))))) (cRet (cC (.bl false))) cNx)
    (cRet (cAnd (cBin (oEq false) (cBlt (gIsi owN) (cConsR (cName 1) (cConsR (cC (.ty "str")) cNilR))) (cBlt (gIsi owN) (cConsR (cName 0) (cConsR (cC (.ty "str")) cNilR)))) (cBin (oEq false) (cName 0) (cName 1)))))))
def sameM : Nat → List D → List Sl → Res Rv
  | 0 => fun _ _ => .bad
  | n + 1 => defM 4 (sameC (sameM n))
theorem same_non (n : Nat) (S : List Sl) : sameM (n + 1) [.non, .non] S = .ok (.d (.bl true)) [] S false := by
  simp_arith [sameM, sameC, cont_non]
theorem same_bl (n : Nat) (a : Bool) (S : List Sl) : sameM (n + 1) [.bl a, .bl a] S = .ok (.d (.bl true)) [] S false := by
  simp_arith [sameM, sameC]
theorem same_int (n : Nat) (a : Int) (S : List Sl) : sameM (n + 1) [.int a, .int a] S = .ok (.d (.bl true)) [] S false := by
  simp_arith [sameM, sameC]
theorem same_str (n : Nat) (a : Str) (S : List Sl) : sameM (n + 1) [.str a, .str a] S = .ok (.d (.bl true)) [] S false := by
  simp_arith [sameM, sameC]

theorem zipD_paired {P : D → D → Prop} : ∀ {xs ys : List D}, Paired P xs ys → ∀ d ∈ zipD xs ys, ∃ x y, d = .tup [x, y] ∧ P x y
  | _, _, .nil, d, h => by cases h
  | _, _, .cons p t, d, h => by
    rcases List.mem_cons.mp h with e | e
    · exact ⟨_, _, e, p⟩
    · exact zipD_paired t d e
theorem paired_len {P : D → D → Prop} : ∀ {xs ys : List D}, Paired P xs ys → xs.length = ys.length
  | _, _, .nil => rfl
  | _, _, .cons _ t => congrArg Nat.succ (paired_len t)
theorem gAll_true (ds : List D) : gAll [.lst ((ds.filter fun _ => true).map fun _ => .bl true)] = some (.d (.bl true)) := by
  have e : ∀ ds : List D, ∃ bs, blsD ((ds.filter fun _ => true).map fun _ => D.bl true) = some bs ∧ bs.all id = true := by
    intro ds
    induction ds with
    | nil => exact ⟨[], rfl, rfl⟩
    | cons d r ih =>
      obtain ⟨bs, e1, e2⟩ := ih
      refine ⟨true :: bs, ?_, by simp [e2]⟩
      rw [List.filter_cons, if_pos rfl, List.map_cons, blsD, e1]
      rfl
  obtain ⟨bs, e1, e2⟩ := e ds
  show (blsD _).map (fun bs => Rv.d (D.bl (bs.all id))) = _
  rw [e1, Option.map_some, e2]
def zipR (ds : List D) (ρ S : List Sl) : Res (List D) := match ds with
  | [.lst xs, .lst ys] => .ok (zipD xs ys) ρ S false
  | [.tup xs, .tup ys] => .ok (zipD xs ys) ρ S false
  | [.tup xs, .kt ys] => .ok (zipD xs ys) ρ S false
  | [.kt xs, .tup ys] => .ok (zipD xs ys) ρ S false
  | _ => .bad
theorem ap_zip (cs : M (List D)) (ρ S : List Sl) : cZip cs ρ S = (cs ρ S).bind zipR := rfl
theorem zipR_ll (xs ys : List D) (ρ S : List Sl) : zipR [.lst xs, .lst ys] ρ S = .ok (zipD xs ys) ρ S false := rfl
theorem zipR_tt (xs ys : List D) (ρ S : List Sl) : zipR [.tup xs, .tup ys] ρ S = .ok (zipD xs ys) ρ S false := rfl
theorem zipR_kt (xs ys : List D) (ρ S : List Sl) : zipR [.kt xs, .tup ys] ρ S = .ok (zipD xs ys) ρ S false := rfl
abbrev Sm (n : Nat) (x y : D) : Prop := ∀ S, sameM n [x, y] S = .ok (.d (.bl true)) [] S false
theorem same_lc {n : Nat} {xs ys : List D} {a b : Sl} {S : List Sl} (h : Paired (Sm n) xs ys) (hl : xs.length ≤ 1000) {f : Bool} :
    lcR [2, 3] (.tp [2, 3]) cYes (cCall (sameM n) 2 0 cb2 (cConsD (cName 2) (cConsD (cName 3) cNilD)) cNilD) (.ok (zipD xs ys) [a, b, .emp, .emp] S f) = .ok (.fr (.lst (((zipD xs ys).filter fun _ => true).map fun _ => .bl true))) [a, b, .emp, .emp] S true := by
  refine lcR_ok (compM_pure (ρw := [a, b, .emp, .emp]) (fun _ => true) (fun _ => .bl true) _ [] ?_ fun d hd => ?_)
  · rw [zipD_length, ← paired_len h]
    exact le_line (by simp; omega)
  · obtain ⟨x, y, rfl, p⟩ := zipD_paired h d hd
    exact ⟨[a, b, .val x, .val y], [a, b, .val x, .val y], false, rfl, rfl, rfl, fun _ => ⟨[a, b, .val x, .val y], false, by simp_arith [p S], rfl⟩⟩
theorem same_lst {n : Nat} {xs ys : List D} (h : Paired (Sm n) xs ys) (hl : xs.length ≤ 1000) : Sm (n + 1) (.lst xs) (.lst ys) := by
  intro S
  have e := paired_len h
  simp_arith [sameM, sameC, ap_zip, zipR_ll, same_lc h hl, gAll_true, e]
theorem same_tup {n : Nat} {xs ys : List D} (h : Paired (Sm n) xs ys) (hl : xs.length ≤ 1000) : Sm (n + 1) (.tup xs) (.tup ys) := by
  intro S
  have e := paired_len h
  simp_arith [sameM, sameC, ap_zip, zipR_tt, same_lc h hl, gAll_true, e]
theorem same_kt {n : Nat} {xs ys : List D} (h : Paired (Sm n) xs ys) (hl : xs.length ≤ 1000) : Sm (n + 1) (.kt xs) (.tup ys) := by
  intro S
  have e := paired_len h
  simp_arith [sameM, sameC, ap_zip, zipR_kt, same_lc h hl, gAll_true, e]
end DV

namespace Lk02
open PySem PySem.Spec PyProof.Rows L2 DV
def top (i : Nat) : Stmt := PySem.Challenge.pw_rightfrom_k02_numbers_names_and_symbols.main.body.getD i (.Pass ⟨0, 0, 0, 0⟩)
abbrev owT : Nat → Ty → Option Bool := fun _ _ => none
abbrev Gk (K : PySem.W.Frag) : Gm := ⟨K, fun _ => 0⟩
abbrev s_is_number : Stmt := top 8
def dd_is_number : He.DefD := ⟨("is_number", none), "is_number", "is_number", defArgs s_is_number, defBody s_is_number, defScope s_is_number, [], [("least", .int (-1000000000000000000000000000000)), ("most", .int 1000000000000000000000000000000)]⟩
theorem sc_is_number : FnScope ["value", "least", "most"] ["value", "least", "most"] (defScope s_is_number) := ⟨rfl, rfl, rfl, by decide +kernel, rfl, by decide +kernel, by decide +kernel⟩
abbrev s_only_of : Stmt := top 9
def dd_only_of : He.DefD := ⟨("only_of", none), "only_of", "only_of", defArgs s_only_of, defBody s_only_of, defScope s_only_of, [], []⟩
theorem sc_only_of : FnScope ["value", "signs", "sign"] ["value", "signs"] (defScope s_only_of) := ⟨rfl, rfl, rfl, by decide +kernel, rfl, by decide +kernel, by decide +kernel⟩
abbrev s_is_symbols : Stmt := top 10
def dd_is_symbols : He.DefD := ⟨("is_symbols", none), "is_symbols", "is_symbols", defArgs s_is_symbols, defBody s_is_symbols, defScope s_is_symbols, [], []⟩
theorem sc_is_symbols : FnScope ["value"] ["value"] (defScope s_is_symbols) := ⟨rfl, rfl, rfl, by decide +kernel, rfl, by decide +kernel, by decide +kernel⟩
abbrev s_is_name : Stmt := top 11
def dd_is_name : He.DefD := ⟨("is_name", none), "is_name", "is_name", defArgs s_is_name, defBody s_is_name, defScope s_is_name, [], []⟩
theorem sc_is_name : FnScope ["value"] ["value"] (defScope s_is_name) := ⟨rfl, rfl, rfl, by decide +kernel, rfl, by decide +kernel, by decide +kernel⟩
abbrev s__law_open : Stmt := top 13
def dd__law_open : He.DefD := ⟨("_law_open", none), "_law_open", "_law_open", defArgs s__law_open, defBody s__law_open, defScope s__law_open, [], []⟩
theorem sc__law_open : FnScope ["_law_script", "_law_mixed", "_law_cell"] ["_law_script"] (defScope s__law_open) := ⟨rfl, rfl, rfl, by decide +kernel, rfl, by decide +kernel, by decide +kernel⟩
abbrev s__law_draw : Stmt := top 14
def dd__law_draw : He.DefD := ⟨("_law_draw", none), "_law_draw", "_law_draw", defArgs s__law_draw, defBody s__law_draw, defScope s__law_draw, [], []⟩
theorem sc__law_draw : FnScope ["_law_bag", "_law_sides", "_law_cell", "_law_small", "_law_digit", "_law_seed", "_law_step"] ["_law_bag", "_law_sides"] (defScope s__law_draw) := ⟨rfl, rfl, rfl, by decide +kernel, rfl, by decide +kernel, by decide +kernel⟩
abbrev s__law_of : Stmt := top 15
def dd__law_of : He.DefD := ⟨("_law_of", none), "_law_of", "_law_of", defArgs s__law_of, defBody s__law_of, defScope s__law_of, [], []⟩
theorem sc__law_of : FnScope ["_law_bag", "_law_things"] ["_law_bag", "_law_things"] (defScope s__law_of) := ⟨rfl, rfl, rfl, by decide +kernel, rfl, by decide +kernel, by decide +kernel⟩
abbrev s__law_same : Stmt := top 16
def dd__law_same : He.DefD := ⟨("_law_same", none), "_law_same", "_law_same", defArgs s__law_same, defBody s__law_same, defScope s__law_same, [], []⟩
theorem sc__law_same : FnScope ["_law_found", "_law_due", "_law_a", "_law_b"] ["_law_found", "_law_due"] (defScope s__law_same) := ⟨rfl, rfl, rfl, by decide +kernel, rfl, by decide +kernel, by decide +kernel⟩
abbrev s__law_none : Stmt := top 17
def dd__law_none : He.DefD := ⟨("_law_none", none), "_law_none", "_law_none", defArgs s__law_none, defBody s__law_none, defScope s__law_none, [], []⟩
theorem sc__law_none : FnScope ["_law_bag", "_law_more"] ["_law_bag", "_law_more"] (defScope s__law_none) := ⟨rfl, rfl, rfl, by decide +kernel, rfl, by decide +kernel, by decide +kernel⟩
abbrev s__law_only : Stmt := top 18
def dd__law_only : He.DefD := ⟨("_law_only", none), "_law_only", "_law_only", defArgs s__law_only, defBody s__law_only, defScope s__law_only, [], []⟩
theorem sc__law_only : FnScope ["_law_text", "_law_signs", "_law_sign"] ["_law_text", "_law_signs"] (defScope s__law_only) := ⟨rfl, rfl, rfl, by decide +kernel, rfl, by decide +kernel, by decide +kernel⟩
abbrev s_law : Stmt := top 19
def dd_law : He.DefD := ⟨("law", none), "law", "law", defArgs s_law, defBody s_law, defScope s_law, [], []⟩
theorem sc_law : FnScope ["_law_script", "_law_bag", "_law_turn", "_law_text", "_law_plain", "_law_letters", "_law_odd", "_law_one", "_law_good", "_law_named", "_law_floor", "_law_size", "_law_number", "_law_due", "_law_bad", "_law_ends", "_law_k"] ["_law_script"] (defScope s_law) := ⟨rfl, rfl, rfl, by decide +kernel, rfl, by decide +kernel, by decide +kernel⟩
def fnl : List He.DefD := [dd_is_number, dd_only_of, dd_is_symbols, dd_is_name, dd__law_open, dd__law_draw, dd__law_of, dd__law_same, dd__law_none, dd__law_only, dd_law]
def chk (K : PySem.W.Frag) : Bool := [(He.Fa.glo "is_number").ok K, (He.Fa.glo "only_of").ok K, (He.Fa.glo "is_symbols").ok K, (He.Fa.glo "is_name").ok K, (He.Fa.glo "_law_open").ok K, (He.Fa.glo "_law_draw").ok K, (He.Fa.glo "_law_of").ok K, (He.Fa.glo "_law_same").ok K, (He.Fa.glo "_law_none").ok K, (He.Fa.glo "_law_only").ok K, (He.Fa.glo "law").ok K, (He.Fa.free "abs").ok K, (He.Fa.free "all").ok K, (He.Fa.free "bool").ok K, (He.Fa.free "int").ok K, (He.Fa.free "isinstance").ok K, (He.Fa.free "len").ok K, (He.Fa.free "list").ok K, (He.Fa.free "range").ok K, (He.Fa.free "set").ok K, (He.Fa.free "str").ok K, (He.Fa.free "tuple").ok K, (He.Fa.free "zip").ok K, (He.Fa.str "SIGNS" "abcdefghijklmnopqrstuvwxyz0123456789").ok K, (He.Fa.str "LETTERS" "abcdefghijklmnopqrstuvwxyz").ok K, (He.Fa.int "BIG" 1000000000000000000000000000000).ok K, ((He.Fa.glo "KINDS").ok K && He.tupB K "KINDS" [.str "late", .str "early"]), (He.Fa.str "ENDLESS" "endless").ok K, (He.Fa.str "NEVER" "never").ok K, (He.Fa.str "CALM" "calm").ok K].all fun b => b
structure Tx (K : PySem.W.Frag) (mg : Str → Option Value) : Prop where
  g_is_number : mg "is_number" = some (.ref (He.ga K "is_number"))
  g_only_of : mg "only_of" = some (.ref (He.ga K "only_of"))
  g_is_symbols : mg "is_symbols" = some (.ref (He.ga K "is_symbols"))
  g_is_name : mg "is_name" = some (.ref (He.ga K "is_name"))
  g__law_open : mg "_law_open" = some (.ref (He.ga K "_law_open"))
  g__law_draw : mg "_law_draw" = some (.ref (He.ga K "_law_draw"))
  g__law_of : mg "_law_of" = some (.ref (He.ga K "_law_of"))
  g__law_same : mg "_law_same" = some (.ref (He.ga K "_law_same"))
  g__law_none : mg "_law_none" = some (.ref (He.ga K "_law_none"))
  g__law_only : mg "_law_only" = some (.ref (He.ga K "_law_only"))
  g_law : mg "law" = some (.ref (He.ga K "law"))
  f_abs : mg "abs" = none
  f_all : mg "all" = none
  f_bool : mg "bool" = none
  f_int : mg "int" = none
  f_isinstance : mg "isinstance" = none
  f_len : mg "len" = none
  f_list : mg "list" = none
  f_range : mg "range" = none
  f_set : mg "set" = none
  f_str : mg "str" = none
  f_tuple : mg "tuple" = none
  f_zip : mg "zip" = none
  k_SIGNS : ∃ t, mg "SIGNS" = some (.str "abcdefghijklmnopqrstuvwxyz0123456789" t)
  k_LETTERS : ∃ t, mg "LETTERS" = some (.str "abcdefghijklmnopqrstuvwxyz" t)
  k_BIG : ∃ t, mg "BIG" = some (.int 1000000000000000000000000000000 t)
  k_KINDS : mg "KINDS" = some (.ref (He.ga K "KINDS")) ∧ ∀ R F, Rep (Gk K) R F (.kt [.str "late", .str "early"]) (.ref (He.ga K "KINDS"))
  k_ENDLESS : ∃ t, mg "ENDLESS" = some (.str "endless" t)
  k_NEVER : ∃ t, mg "NEVER" = some (.str "never" t)
  k_CALM : ∃ t, mg "CALM" = some (.str "calm" t)
  ow : OwOk (Gk K) owT
theorem tx_of {K : PySem.W.Frag} {h : Heap} {mg : Str → Option Value} (X : K.In h) (G : h.Ns mainGlobals mg) (c : chk K = true) : Tx K mg := by
  have e : ∀ b, b ∈ [(He.Fa.glo "is_number").ok K, (He.Fa.glo "only_of").ok K, (He.Fa.glo "is_symbols").ok K, (He.Fa.glo "is_name").ok K, (He.Fa.glo "_law_open").ok K, (He.Fa.glo "_law_draw").ok K, (He.Fa.glo "_law_of").ok K, (He.Fa.glo "_law_same").ok K, (He.Fa.glo "_law_none").ok K, (He.Fa.glo "_law_only").ok K, (He.Fa.glo "law").ok K, (He.Fa.free "abs").ok K, (He.Fa.free "all").ok K, (He.Fa.free "bool").ok K, (He.Fa.free "int").ok K, (He.Fa.free "isinstance").ok K, (He.Fa.free "len").ok K, (He.Fa.free "list").ok K, (He.Fa.free "range").ok K, (He.Fa.free "set").ok K, (He.Fa.free "str").ok K, (He.Fa.free "tuple").ok K, (He.Fa.free "zip").ok K, (He.Fa.str "SIGNS" "abcdefghijklmnopqrstuvwxyz0123456789").ok K, (He.Fa.str "LETTERS" "abcdefghijklmnopqrstuvwxyz").ok K, (He.Fa.int "BIG" 1000000000000000000000000000000).ok K, ((He.Fa.glo "KINDS").ok K && He.tupB K "KINDS" [.str "late", .str "early"]), (He.Fa.str "ENDLESS" "endless").ok K, (He.Fa.str "NEVER" "never").ok K, (He.Fa.str "CALM" "calm").ok K] → b = true := List.all_eq_true.mp c
  exact ⟨He.glo_ok X G (e _ (.head _)), He.glo_ok X G (e _ (.tail _ (.head _))), He.glo_ok X G (e _ (.tail _ (.tail _ (.head _)))), He.glo_ok X G (e _ (.tail _ (.tail _ (.tail _ (.head _))))), He.glo_ok X G (e _ (.tail _ (.tail _ (.tail _ (.tail _ (.head _)))))), He.glo_ok X G (e _ (.tail _ (.tail _ (.tail _ (.tail _ (.tail _ (.head _))))))), He.glo_ok X G (e _ (.tail _ (.tail _ (.tail _ (.tail _ (.tail _ (.tail _ (.head _)))))))), He.glo_ok X G (e _ (.tail _ (.tail _ (.tail _ (.tail _ (.tail _ (.tail _ (.tail _ (.head _))))))))), He.glo_ok X G (e _ (.tail _ (.tail _ (.tail _ (.tail _ (.tail _ (.tail _ (.tail _ (.tail _ (.head _)))))))))), He.glo_ok X G (e _ (.tail _ (.tail _ (.tail _ (.tail _ (.tail _ (.tail _ (.tail _ (.tail _ (.tail _ (.head _))))))))))), He.glo_ok X G (e _ (.tail _ (.tail _ (.tail _ (.tail _ (.tail _ (.tail _ (.tail _ (.tail _ (.tail _ (.tail _ (.head _)))))))))))), He.free_ok X G (e _ (.tail _ (.tail _ (.tail _ (.tail _ (.tail _ (.tail _ (.tail _ (.tail _ (.tail _ (.tail _ (.tail _ (.head _))))))))))))), He.free_ok X G (e _ (.tail _ (.tail _ (.tail _ (.tail _ (.tail _ (.tail _ (.tail _ (.tail _ (.tail _ (.tail _ (.tail _ (.tail _ (.head _)))))))))))))), He.free_ok X G (e _ (.tail _ (.tail _ (.tail _ (.tail _ (.tail _ (.tail _ (.tail _ (.tail _ (.tail _ (.tail _ (.tail _ (.tail _ (.tail _ (.head _))))))))))))))), He.free_ok X G (e _ (.tail _ (.tail _ (.tail _ (.tail _ (.tail _ (.tail _ (.tail _ (.tail _ (.tail _ (.tail _ (.tail _ (.tail _ (.tail _ (.tail _ (.head _)))))))))))))))), He.free_ok X G (e _ (.tail _ (.tail _ (.tail _ (.tail _ (.tail _ (.tail _ (.tail _ (.tail _ (.tail _ (.tail _ (.tail _ (.tail _ (.tail _ (.tail _ (.tail _ (.head _))))))))))))))))), He.free_ok X G (e _ (.tail _ (.tail _ (.tail _ (.tail _ (.tail _ (.tail _ (.tail _ (.tail _ (.tail _ (.tail _ (.tail _ (.tail _ (.tail _ (.tail _ (.tail _ (.tail _ (.head _)))))))))))))))))), He.free_ok X G (e _ (.tail _ (.tail _ (.tail _ (.tail _ (.tail _ (.tail _ (.tail _ (.tail _ (.tail _ (.tail _ (.tail _ (.tail _ (.tail _ (.tail _ (.tail _ (.tail _ (.tail _ (.head _))))))))))))))))))), He.free_ok X G (e _ (.tail _ (.tail _ (.tail _ (.tail _ (.tail _ (.tail _ (.tail _ (.tail _ (.tail _ (.tail _ (.tail _ (.tail _ (.tail _ (.tail _ (.tail _ (.tail _ (.tail _ (.tail _ (.head _)))))))))))))))))))), He.free_ok X G (e _ (.tail _ (.tail _ (.tail _ (.tail _ (.tail _ (.tail _ (.tail _ (.tail _ (.tail _ (.tail _ (.tail _ (.tail _ (.tail _ (.tail _ (.tail _ (.tail _ (.tail _ (.tail _ (.tail _ (.head _))))))))))))))))))))), He.free_ok X G (e _ (.tail _ (.tail _ (.tail _ (.tail _ (.tail _ (.tail _ (.tail _ (.tail _ (.tail _ (.tail _ (.tail _ (.tail _ (.tail _ (.tail _ (.tail _ (.tail _ (.tail _ (.tail _ (.tail _ (.tail _ (.head _)))))))))))))))))))))), He.free_ok X G (e _ (.tail _ (.tail _ (.tail _ (.tail _ (.tail _ (.tail _ (.tail _ (.tail _ (.tail _ (.tail _ (.tail _ (.tail _ (.tail _ (.tail _ (.tail _ (.tail _ (.tail _ (.tail _ (.tail _ (.tail _ (.tail _ (.head _))))))))))))))))))))))), He.free_ok X G (e _ (.tail _ (.tail _ (.tail _ (.tail _ (.tail _ (.tail _ (.tail _ (.tail _ (.tail _ (.tail _ (.tail _ (.tail _ (.tail _ (.tail _ (.tail _ (.tail _ (.tail _ (.tail _ (.tail _ (.tail _ (.tail _ (.tail _ (.head _)))))))))))))))))))))))), He.str_ok X G (e _ (.tail _ (.tail _ (.tail _ (.tail _ (.tail _ (.tail _ (.tail _ (.tail _ (.tail _ (.tail _ (.tail _ (.tail _ (.tail _ (.tail _ (.tail _ (.tail _ (.tail _ (.tail _ (.tail _ (.tail _ (.tail _ (.tail _ (.tail _ (.head _))))))))))))))))))))))))), He.str_ok X G (e _ (.tail _ (.tail _ (.tail _ (.tail _ (.tail _ (.tail _ (.tail _ (.tail _ (.tail _ (.tail _ (.tail _ (.tail _ (.tail _ (.tail _ (.tail _ (.tail _ (.tail _ (.tail _ (.tail _ (.tail _ (.tail _ (.tail _ (.tail _ (.tail _ (.head _)))))))))))))))))))))))))), He.int_ok X G (e _ (.tail _ (.tail _ (.tail _ (.tail _ (.tail _ (.tail _ (.tail _ (.tail _ (.tail _ (.tail _ (.tail _ (.tail _ (.tail _ (.tail _ (.tail _ (.tail _ (.tail _ (.tail _ (.tail _ (.tail _ (.tail _ (.tail _ (.tail _ (.tail _ (.tail _ (.head _))))))))))))))))))))))))))), ⟨He.glo_ok X G (He.ba (e _ (.tail _ (.tail _ (.tail _ (.tail _ (.tail _ (.tail _ (.tail _ (.tail _ (.tail _ (.tail _ (.tail _ (.tail _ (.tail _ (.tail _ (.tail _ (.tail _ (.tail _ (.tail _ (.tail _ (.tail _ (.tail _ (.tail _ (.tail _ (.tail _ (.tail _ (.tail _ (.head _))))))))))))))))))))))))))))).1, rep_kt (Γ := Gk K) (He.tupB_ok (He.ba (e _ (.tail _ (.tail _ (.tail _ (.tail _ (.tail _ (.tail _ (.tail _ (.tail _ (.tail _ (.tail _ (.tail _ (.tail _ (.tail _ (.tail _ (.tail _ (.tail _ (.tail _ (.tail _ (.tail _ (.tail _ (.tail _ (.tail _ (.tail _ (.tail _ (.tail _ (.tail _ (.head _))))))))))))))))))))))))))))).2) (fun _ _ => (repL_cons rep_str (repL_cons rep_str repL_nil)))⟩, He.str_ok X G (e _ (.tail _ (.tail _ (.tail _ (.tail _ (.tail _ (.tail _ (.tail _ (.tail _ (.tail _ (.tail _ (.tail _ (.tail _ (.tail _ (.tail _ (.tail _ (.tail _ (.tail _ (.tail _ (.tail _ (.tail _ (.tail _ (.tail _ (.tail _ (.tail _ (.tail _ (.tail _ (.tail _ (.head _))))))))))))))))))))))))))))), He.str_ok X G (e _ (.tail _ (.tail _ (.tail _ (.tail _ (.tail _ (.tail _ (.tail _ (.tail _ (.tail _ (.tail _ (.tail _ (.tail _ (.tail _ (.tail _ (.tail _ (.tail _ (.tail _ (.tail _ (.tail _ (.tail _ (.tail _ (.tail _ (.tail _ (.tail _ (.tail _ (.tail _ (.tail _ (.tail _ (.head _)))))))))))))))))))))))))))))), He.str_ok X G (e _ (.tail _ (.tail _ (.tail _ (.tail _ (.tail _ (.tail _ (.tail _ (.tail _ (.tail _ (.tail _ (.tail _ (.tail _ (.tail _ (.tail _ (.tail _ (.tail _ (.tail _ (.tail _ (.tail _ (.tail _ (.tail _ (.tail _ (.tail _ (.tail _ (.tail _ (.tail _ (.tail _ (.tail _ (.tail _ (.head _))))))))))))))))))))))))))))))), ow_none⟩
abbrev cb_only_of_2M : List D → List D → List D := fun ds es => pick [0, 1] (ds ++ es)
theorem cb_only_of_2 {K : PySem.W.Frag} {f : Addr} {fd : FuncData} (F : FunD K dd_only_of.name dd_only_of.qual dd_only_of.params dd_only_of.body dd_only_of.scope (dd_only_of.dvs K) (dd_only_of.kws K) f fd) : CallB (Gk K) K fd ["value", "signs"] 2 [] cb_only_of_2M :=
  cb_N (ps := ["value", "signs"]) F 2 [] [0, 1] rfl (by decide) fun _ _ _ _ _ _ us ws l1 l2 => match us, ws, l1, l2 with | [_, _], [], _, _ => rfl
abbrev cb__law_draw_2M : List D → List D → List D := fun ds es => pick [0, 1] (ds ++ es)
theorem cb__law_draw_2 {K : PySem.W.Frag} {f : Addr} {fd : FuncData} (F : FunD K dd__law_draw.name dd__law_draw.qual dd__law_draw.params dd__law_draw.body dd__law_draw.scope (dd__law_draw.dvs K) (dd__law_draw.kws K) f fd) : CallB (Gk K) K fd ["_law_bag", "_law_sides"] 2 [] cb__law_draw_2M :=
  cb_N (ps := ["_law_bag", "_law_sides"]) F 2 [] [0, 1] rfl (by decide) fun _ _ _ _ _ _ us ws l1 l2 => match us, ws, l1, l2 with | [_, _], [], _, _ => rfl
abbrev cb__law_same_2M : List D → List D → List D := fun ds es => pick [0, 1] (ds ++ es)
theorem cb__law_same_2 {K : PySem.W.Frag} {f : Addr} {fd : FuncData} (F : FunD K dd__law_same.name dd__law_same.qual dd__law_same.params dd__law_same.body dd__law_same.scope (dd__law_same.dvs K) (dd__law_same.kws K) f fd) : CallB (Gk K) K fd ["_law_found", "_law_due"] 2 [] cb__law_same_2M :=
  cb_N (ps := ["_law_found", "_law_due"]) F 2 [] [0, 1] rfl (by decide) fun _ _ _ _ _ _ us ws l1 l2 => match us, ws, l1, l2 with | [_, _], [], _, _ => rfl
abbrev cb__law_of_2M : List D → List D → List D := fun ds es => pick [0, 1] (ds ++ es)
theorem cb__law_of_2 {K : PySem.W.Frag} {f : Addr} {fd : FuncData} (F : FunD K dd__law_of.name dd__law_of.qual dd__law_of.params dd__law_of.body dd__law_of.scope (dd__law_of.dvs K) (dd__law_of.kws K) f fd) : CallB (Gk K) K fd ["_law_bag", "_law_things"] 2 [] cb__law_of_2M :=
  cb_N (ps := ["_law_bag", "_law_things"]) F 2 [] [0, 1] rfl (by decide) fun _ _ _ _ _ _ us ws l1 l2 => match us, ws, l1, l2 with | [_, _], [], _, _ => rfl
abbrev cb__law_open_1M : List D → List D → List D := fun ds es => pick [0] (ds ++ es)
theorem cb__law_open_1 {K : PySem.W.Frag} {f : Addr} {fd : FuncData} (F : FunD K dd__law_open.name dd__law_open.qual dd__law_open.params dd__law_open.body dd__law_open.scope (dd__law_open.dvs K) (dd__law_open.kws K) f fd) : CallB (Gk K) K fd ["_law_script"] 1 [] cb__law_open_1M :=
  cb_N (ps := ["_law_script"]) F 1 [] [0] rfl (by decide) fun _ _ _ _ _ _ us ws l1 l2 => match us, ws, l1, l2 with | [_], [], _, _ => rfl
abbrev cb__law_none_2M : List D → List D → List D := fun ds es => pick [0, 1] (ds ++ es)
theorem cb__law_none_2 {K : PySem.W.Frag} {f : Addr} {fd : FuncData} (F : FunD K dd__law_none.name dd__law_none.qual dd__law_none.params dd__law_none.body dd__law_none.scope (dd__law_none.dvs K) (dd__law_none.kws K) f fd) : CallB (Gk K) K fd ["_law_bag", "_law_more"] 2 [] cb__law_none_2M :=
  cb_N (ps := ["_law_bag", "_law_more"]) F 2 [] [0, 1] rfl (by decide) fun _ _ _ _ _ _ us ws l1 l2 => match us, ws, l1, l2 with | [_, _], [], _, _ => rfl
abbrev cb__law_only_2M : List D → List D → List D := fun ds es => pick [0, 1] (ds ++ es)
theorem cb__law_only_2 {K : PySem.W.Frag} {f : Addr} {fd : FuncData} (F : FunD K dd__law_only.name dd__law_only.qual dd__law_only.params dd__law_only.body dd__law_only.scope (dd__law_only.dvs K) (dd__law_only.kws K) f fd) : CallB (Gk K) K fd ["_law_text", "_law_signs"] 2 [] cb__law_only_2M :=
  cb_N (ps := ["_law_text", "_law_signs"]) F 2 [] [0, 1] rfl (by decide) fun _ _ _ _ _ _ us ws l1 l2 => match us, ws, l1, l2 with | [_, _], [], _, _ => rfl
abbrev cb_is_symbols_1M : List D → List D → List D := fun ds es => pick [0] (ds ++ es)
theorem cb_is_symbols_1 {K : PySem.W.Frag} {f : Addr} {fd : FuncData} (F : FunD K dd_is_symbols.name dd_is_symbols.qual dd_is_symbols.params dd_is_symbols.body dd_is_symbols.scope (dd_is_symbols.dvs K) (dd_is_symbols.kws K) f fd) : CallB (Gk K) K fd ["value"] 1 [] cb_is_symbols_1M :=
  cb_N (ps := ["value"]) F 1 [] [0] rfl (by decide) fun _ _ _ _ _ _ us ws l1 l2 => match us, ws, l1, l2 with | [_], [], _, _ => rfl
abbrev cb_is_symbols_0_valueM : List D → List D → List D := fun ds es => pick [0] (ds ++ es)
theorem cb_is_symbols_0_value {K : PySem.W.Frag} {f : Addr} {fd : FuncData} (F : FunD K dd_is_symbols.name dd_is_symbols.qual dd_is_symbols.params dd_is_symbols.body dd_is_symbols.scope (dd_is_symbols.dvs K) (dd_is_symbols.kws K) f fd) : CallB (Gk K) K fd ["value"] 0 ["value"] cb_is_symbols_0_valueM :=
  cb_N (ps := ["value"]) F 0 ["value"] [0] rfl (by decide) fun _ _ _ _ _ _ us ws l1 l2 => match us, ws, l1, l2 with | [], [_], _, _ => rfl
abbrev cb_is_name_1M : List D → List D → List D := fun ds es => pick [0] (ds ++ es)
theorem cb_is_name_1 {K : PySem.W.Frag} {f : Addr} {fd : FuncData} (F : FunD K dd_is_name.name dd_is_name.qual dd_is_name.params dd_is_name.body dd_is_name.scope (dd_is_name.dvs K) (dd_is_name.kws K) f fd) : CallB (Gk K) K fd ["value"] 1 [] cb_is_name_1M :=
  cb_N (ps := ["value"]) F 1 [] [0] rfl (by decide) fun _ _ _ _ _ _ us ws l1 l2 => match us, ws, l1, l2 with | [_], [], _, _ => rfl
abbrev cb_is_name_0_valueM : List D → List D → List D := fun ds es => pick [0] (ds ++ es)
theorem cb_is_name_0_value {K : PySem.W.Frag} {f : Addr} {fd : FuncData} (F : FunD K dd_is_name.name dd_is_name.qual dd_is_name.params dd_is_name.body dd_is_name.scope (dd_is_name.dvs K) (dd_is_name.kws K) f fd) : CallB (Gk K) K fd ["value"] 0 ["value"] cb_is_name_0_valueM :=
  cb_N (ps := ["value"]) F 0 ["value"] [0] rfl (by decide) fun _ _ _ _ _ _ us ws l1 l2 => match us, ws, l1, l2 with | [], [_], _, _ => rfl
abbrev cb_is_number_1_least_mostM : List D → List D → List D := fun ds es => pick [0, 1, 2] (ds ++ es)
theorem cb_is_number_1_least_most {K : PySem.W.Frag} {f : Addr} {fd : FuncData} (F : FunD K dd_is_number.name dd_is_number.qual dd_is_number.params dd_is_number.body dd_is_number.scope (dd_is_number.dvs K) (dd_is_number.kws K) f fd) : CallB (Gk K) K fd ["value", "least", "most"] 1 ["least", "most"] cb_is_number_1_least_mostM :=
  cb_N (ps := ["value", "least", "most"]) F 1 ["least", "most"] [0, 1, 2] rfl (by decide) fun _ _ _ _ _ _ us ws l1 l2 => match us, ws, l1, l2 with | [_], [_, _], _, _ => rfl
abbrev cb_is_number_0_most_valueM : List D → List D → List D := fun ds es => pick [1, 2, 0] (ds ++ es ++ [.int (-1000000000000000000000000000000)])
theorem cb_is_number_0_most_value {K : PySem.W.Frag} {f : Addr} {fd : FuncData} (F : FunD K dd_is_number.name dd_is_number.qual dd_is_number.params dd_is_number.body dd_is_number.scope (dd_is_number.dvs K) (dd_is_number.kws K) f fd) : CallB (Gk K) K fd ["value", "least", "most"] 0 ["most", "value"] cb_is_number_0_most_valueM :=
  cb_K (ps := ["value", "least", "most"]) F 0 ["most", "value"] [("least", .int (-1000000000000000000000000000000))] (by intro z; cases z) (fun q hq => by
    rcases List.mem_cons.mp hq with rfl | hq
    · exact (.head _)
    cases hq) [.int (-1000000000000000000000000000000)] (fun _ _ => (repL_cons rep_int repL_nil)) [1, 2, 0] rfl (by decide) fun _ _ _ _ _ _ us ws mv l1 l2 l3 => match us, ws, mv, l1, l2, l3 with | [], [_, _], [_], _, _, _ => ⟨_, _, _, _, _, _, rfl, rfl, rfl⟩
abbrev cb_is_number_1_leastM : List D → List D → List D := fun ds es => pick [0, 1, 2] (ds ++ es ++ [.int 1000000000000000000000000000000])
theorem cb_is_number_1_least {K : PySem.W.Frag} {f : Addr} {fd : FuncData} (F : FunD K dd_is_number.name dd_is_number.qual dd_is_number.params dd_is_number.body dd_is_number.scope (dd_is_number.dvs K) (dd_is_number.kws K) f fd) : CallB (Gk K) K fd ["value", "least", "most"] 1 ["least"] cb_is_number_1_leastM :=
  cb_K (ps := ["value", "least", "most"]) F 1 ["least"] [("most", .int 1000000000000000000000000000000)] (by intro z; cases z) (fun q hq => by
    rcases List.mem_cons.mp hq with rfl | hq
    · exact (.tail _ (.head _))
    cases hq) [.int 1000000000000000000000000000000] (fun _ _ => (repL_cons rep_int repL_nil)) [0, 1, 2] rfl (by decide) fun _ _ _ _ _ _ us ws mv l1 l2 l3 => match us, ws, mv, l1, l2, l3 with | [_], [_], [_], _, _, _ => ⟨_, _, _, _, _, _, rfl, rfl, rfl⟩
abbrev cb_is_number_1M : List D → List D → List D := fun ds es => pick [0, 1, 2] (ds ++ es ++ [.int (-1000000000000000000000000000000), .int 1000000000000000000000000000000])
theorem cb_is_number_1 {K : PySem.W.Frag} {f : Addr} {fd : FuncData} (F : FunD K dd_is_number.name dd_is_number.qual dd_is_number.params dd_is_number.body dd_is_number.scope (dd_is_number.dvs K) (dd_is_number.kws K) f fd) : CallB (Gk K) K fd ["value", "least", "most"] 1 [] cb_is_number_1M :=
  cb_K (ps := ["value", "least", "most"]) F 1 [] [("least", .int (-1000000000000000000000000000000)), ("most", .int 1000000000000000000000000000000)] (by intro z; cases z) (fun q hq => by
    rcases List.mem_cons.mp hq with rfl | hq
    · exact (.head _)
    rcases List.mem_cons.mp hq with rfl | hq
    · exact (.tail _ (.head _))
    cases hq) [.int (-1000000000000000000000000000000), .int 1000000000000000000000000000000] (fun _ _ => (repL_cons rep_int (repL_cons rep_int repL_nil))) [0, 1, 2] rfl (by decide) fun _ _ _ _ _ _ us ws mv l1 l2 l3 => match us, ws, mv, l1, l2, l3 with | [_], [], [_, _], _, _, _ => ⟨_, _, _, _, _, _, rfl, rfl, ⟨_, _, _, _, _, _, rfl, rfl, rfl⟩⟩
def c_is_number : M Fl := (cRet (cAnd (cBlt (gIsi owT) (cConsR (cName 0) (cConsR (cC (.ty "int")) cNilR))) (cAnd (cNot (cBlt (gIsi owT) (cConsR (cName 0) (cConsR (cC (.ty "bool")) cNilR)))) (cChain oLe oLe (cName 1) (cName 0) (cName 2)))))
def m_is_number : List D → List Sl → Res Rv := defM 3 c_is_number
abbrev FD_is_number (K : PySem.W.Frag) (fd : FuncData) : Prop := FunD K dd_is_number.name dd_is_number.qual dd_is_number.params dd_is_number.body dd_is_number.scope (dd_is_number.dvs K) (dd_is_number.kws K) (He.fAd K dd_is_number.at_) fd
abbrev Ok_is_number (P : Program) (wd : World) (K : PySem.W.Frag) (mg : Str → Option Value) (base : Heap) : Prop := ∃ fd, FD_is_number K fd ∧ FnOk P wd K mg base (L2.CX P wd) 1 (He.fAd K dd_is_number.at_) fd ["value", "least", "most"] (spM (Gk K) 3 m_is_number)
set_option maxHeartbeats 0 in
theorem ok_is_number {P : Program} {wd : World} {K : PySem.W.Frag} {mg : Str → Option Value} {base : Heap} (T : Tx K mg) (D0 : ∃ fd, FD_is_number K fd) : Ok_is_number P wd K mg base := by
  obtain ⟨fd, F⟩ := D0
  refine ⟨fd, F, ?_⟩
  · refine fn_dv (Γ := Gk K) (N := ["value", "least", "most"]) (ps := ["value", "least", "most"]) (c := c_is_number) F sc_is_number fun cdv A outer s H E hr tk pas => ?_
    have hu : (A.deeper (envOfC dd_is_number.qual dd_is_number.scope s.heap.objs.size (He.fAd K dd_is_number.at_) cdv)).units + 64 < cLine := by have := hr.un; omega
    have hu1 : (A.deeper (envOfC dd_is_number.qual dd_is_number.scope s.heap.objs.size (He.fAd K dd_is_number.at_) cdv)).units + 1 < cLine := by omega
    exact (pms_one (pms_ret (pm_and rfl (pm_blt (CallR.or call_isi call_isiT) (CallOk.or (okIsO T.ow) (okIsM T.ow)) rfl T.f_isinstance (by rfl) (pmr_cons (pm_name 0 rfl (.inl rfl)) (pmr_cons (pm_gT T.f_int (by rfl) rfl (by decide) (by decide)) pmr_nil rfl) rfl) rfl rfl (by decide) (by decide)) (pm_and rfl (pm_notV rfl (pm_blt (CallR.or call_isi call_isiT) (CallOk.or (okIsO T.ow) (okIsM T.ow)) rfl T.f_isinstance (by rfl) (pmr_cons (pm_name 0 rfl (.inl rfl)) (pmr_cons (pm_gT T.f_bool (by rfl) rfl (by decide) (by decide)) pmr_nil rfl) rfl) rfl rfl (by decide) (by decide))) (pm_one (pm_chain op_le op_le bLe bLe (pm_name 1 rfl (.inl rfl)) (pm_name 0 rfl (.inl rfl)) (pm_name 2 rfl (.inl rfl)) (by with_unfolding_all rfl)))))))
def c_only_of : M Fl := (cSeq (cIfS (cNotB (cTru (cBlt (gIsi owT) (cConsR (cName 0) (cConsR (cC (.ty "str")) cNilR))))) (cRet (cC (.bl false))) cNx)
    (cSeq (cFor (cIts (cName 0)) (.nm 2) (cIfS (cTst (cBin (oIn true) (cName 2) (cName 1))) (cRet (cC (.bl false))) cNx))
    (cRet (cC (.bl true)))))
def m_only_of : List D → List Sl → Res Rv := defM 3 c_only_of
abbrev FD_only_of (K : PySem.W.Frag) (fd : FuncData) : Prop := FunD K dd_only_of.name dd_only_of.qual dd_only_of.params dd_only_of.body dd_only_of.scope (dd_only_of.dvs K) (dd_only_of.kws K) (He.fAd K dd_only_of.at_) fd
abbrev Ok_only_of (P : Program) (wd : World) (K : PySem.W.Frag) (mg : Str → Option Value) (base : Heap) : Prop := ∃ fd, FD_only_of K fd ∧ FnOk P wd K mg base (L2.CX P wd) 1 (He.fAd K dd_only_of.at_) fd ["value", "signs"] (spM (Gk K) 2 m_only_of)
set_option maxHeartbeats 0 in
theorem ok_only_of {P : Program} {wd : World} {K : PySem.W.Frag} {mg : Str → Option Value} {base : Heap} (T : Tx K mg) (D0 : ∃ fd, FD_only_of K fd) : Ok_only_of P wd K mg base := by
  obtain ⟨fd, F⟩ := D0
  refine ⟨fd, F, ?_⟩
  · refine fn_dv (Γ := Gk K) (N := ["value", "signs", "sign"]) (ps := ["value", "signs"]) (c := c_only_of) F sc_only_of fun cdv A outer s H E hr tk pas => ?_
    have hu : (A.deeper (envOfC dd_only_of.qual dd_only_of.scope s.heap.objs.size (He.fAd K dd_only_of.at_) cdv)).units + 64 < cLine := by have := hr.un; omega
    have hu1 : (A.deeper (envOfC dd_only_of.qual dd_only_of.scope s.heap.objs.size (He.fAd K dd_only_of.at_) cdv)).units + 1 < cLine := by omega
    exact (pms_cons (pms_if (pm_not (pm_test rfl (pm_blt (CallR.or call_isi call_isiT) (CallOk.or (okIsO T.ow) (okIsM T.ow)) rfl T.f_isinstance (by rfl) (pmr_cons (pm_name 0 rfl (.inl rfl)) (pmr_cons (pm_gT T.f_str (by rfl) rfl (by decide) (by decide)) pmr_nil rfl) rfl) rfl rfl (by decide) (by decide)) (fun _ => rfl))) (pms_one (pms_ret pm_bl)) pms_nil)
    (pms_cons (pms_for pas rfl (pmi_its rfl (pm_name 0 rfl (.inl rfl))) (pg_name (i := 2) sc_only_of.nd rfl (.inl rfl) (.inl rfl)) (tg_nm 2) (fun _ h => by cases h) (pms_one (pms_if (pmt_cmp (opNotIn hu1) bNotIn (pm_name 2 rfl (.inl rfl)) (pm_name 1 rfl (.inl rfl)) (by with_unfolding_all rfl)) (pms_one (pms_ret pm_bl)) pms_nil)) (fun _ => rfl))
    (pms_one (pms_ret pm_bl))))
def c_is_symbols : M Fl := (cRet (cAnd (cCall m_only_of 2 0 cb_only_of_2M (cConsD (cName 0) (cConsD (cC (.str "abcdefghijklmnopqrstuvwxyz0123456789")) cNilD)) cNilD) (cAnd (cChain oLe oLe (cC (.int 1)) (cBlt gLen (cConsR (cName 0) cNilR)) (cC (.int 5))) (cBin (oEq false) (cLenSet (cBlt gList (cConsR (cName 0) cNilR))) (cBlt gLen (cConsR (cName 0) cNilR))))))
def m_is_symbols : List D → List Sl → Res Rv := defM 1 c_is_symbols
abbrev FD_is_symbols (K : PySem.W.Frag) (fd : FuncData) : Prop := FunD K dd_is_symbols.name dd_is_symbols.qual dd_is_symbols.params dd_is_symbols.body dd_is_symbols.scope (dd_is_symbols.dvs K) (dd_is_symbols.kws K) (He.fAd K dd_is_symbols.at_) fd
abbrev Ok_is_symbols (P : Program) (wd : World) (K : PySem.W.Frag) (mg : Str → Option Value) (base : Heap) : Prop := ∃ fd, FD_is_symbols K fd ∧ FnOk P wd K mg base (L2.CX P wd) 2 (He.fAd K dd_is_symbols.at_) fd ["value"] (spM (Gk K) 1 m_is_symbols)
set_option maxHeartbeats 0 in
theorem ok_is_symbols {P : Program} {wd : World} {K : PySem.W.Frag} {mg : Str → Option Value} {base : Heap} (T : Tx K mg) (C_only_of : Ok_only_of P wd K mg base) (D0 : ∃ fd, FD_is_symbols K fd) : Ok_is_symbols P wd K mg base := by
  obtain ⟨fd, F⟩ := D0
  obtain ⟨_, F_only_of, G_only_of⟩ := C_only_of
  refine ⟨fd, F, ?_⟩
  · refine fn_dv (Γ := Gk K) (N := ["value"]) (ps := ["value"]) (c := c_is_symbols) F sc_is_symbols fun cdv A outer s H E hr tk pas => ?_
    have hu : (A.deeper (envOfC dd_is_symbols.qual dd_is_symbols.scope s.heap.objs.size (He.fAd K dd_is_symbols.at_) cdv)).units + 64 < cLine := by have := hr.un; omega
    have hu1 : (A.deeper (envOfC dd_is_symbols.qual dd_is_symbols.scope s.heap.objs.size (He.fAd K dd_is_symbols.at_) cdv)).units + 1 < cLine := by omega
    exact (pms_one (pms_ret (pm_and rfl (pm_callJ [] rfl G_only_of (hr.mono (by decide)) rfl T.g_only_of F_only_of.kp (cb_only_of_2 F_only_of) tk (pma_cons (pm_name 0 rfl (.inl rfl)) (pma_cons (pm_gS T.k_SIGNS rfl (by decide)) pma_nil rfl) rfl) pmk_nil rfl rfl (by decide) rfl rfl) (pm_and rfl (pm_chain op_le op_le bLe bLe pm_int (pm_blt crLen okLen rfl T.f_len (by rfl) (pmr_cons (pm_name 0 rfl (.inl rfl)) pmr_nil rfl) rfl rfl (by decide) (by decide)) pm_int (by with_unfolding_all rfl)) (pm_one (pm_cmp (opEq hu) bEq (pm_lenSet rfl rfl rfl T.f_len rfl T.f_set (pm_ty (crList rfl) okList rfl T.f_list (by rfl) (pmr_cons (pm_name 0 rfl (.inl rfl)) pmr_nil rfl) rfl rfl (by decide) (by decide)) rfl) (pm_blt crLen okLen rfl T.f_len (by rfl) (pmr_cons (pm_name 0 rfl (.inl rfl)) pmr_nil rfl) rfl rfl (by decide) (by decide)) (nomark _)))))))
def c_is_name : M Fl := (cRet (cAnd (cCall m_only_of 2 0 cb_only_of_2M (cConsD (cName 0) (cConsD (cC (.str "abcdefghijklmnopqrstuvwxyz")) cNilD)) cNilD) (cChain oLe oLe (cC (.int 1)) (cBlt gLen (cConsR (cName 0) cNilR)) (cC (.int 6)))))
def m_is_name : List D → List Sl → Res Rv := defM 1 c_is_name
abbrev FD_is_name (K : PySem.W.Frag) (fd : FuncData) : Prop := FunD K dd_is_name.name dd_is_name.qual dd_is_name.params dd_is_name.body dd_is_name.scope (dd_is_name.dvs K) (dd_is_name.kws K) (He.fAd K dd_is_name.at_) fd
abbrev Ok_is_name (P : Program) (wd : World) (K : PySem.W.Frag) (mg : Str → Option Value) (base : Heap) : Prop := ∃ fd, FD_is_name K fd ∧ FnOk P wd K mg base (L2.CX P wd) 2 (He.fAd K dd_is_name.at_) fd ["value"] (spM (Gk K) 1 m_is_name)
set_option maxHeartbeats 0 in
theorem ok_is_name {P : Program} {wd : World} {K : PySem.W.Frag} {mg : Str → Option Value} {base : Heap} (T : Tx K mg) (C_only_of : Ok_only_of P wd K mg base) (D0 : ∃ fd, FD_is_name K fd) : Ok_is_name P wd K mg base := by
  obtain ⟨fd, F⟩ := D0
  obtain ⟨_, F_only_of, G_only_of⟩ := C_only_of
  refine ⟨fd, F, ?_⟩
  · refine fn_dv (Γ := Gk K) (N := ["value"]) (ps := ["value"]) (c := c_is_name) F sc_is_name fun cdv A outer s H E hr tk pas => ?_
    have hu : (A.deeper (envOfC dd_is_name.qual dd_is_name.scope s.heap.objs.size (He.fAd K dd_is_name.at_) cdv)).units + 64 < cLine := by have := hr.un; omega
    have hu1 : (A.deeper (envOfC dd_is_name.qual dd_is_name.scope s.heap.objs.size (He.fAd K dd_is_name.at_) cdv)).units + 1 < cLine := by omega
    exact (pms_one (pms_ret (pm_and rfl (pm_callJ [] rfl G_only_of (hr.mono (by decide)) rfl T.g_only_of F_only_of.kp (cb_only_of_2 F_only_of) tk (pma_cons (pm_name 0 rfl (.inl rfl)) (pma_cons (pm_gS T.k_LETTERS rfl (by decide)) pma_nil rfl) rfl) pmk_nil rfl rfl (by decide) rfl rfl) (pm_one (pm_chain op_le op_le bLe bLe pm_int (pm_blt crLen okLen rfl T.f_len (by rfl) (pmr_cons (pm_name 0 rfl (.inl rfl)) pmr_nil rfl) rfl rfl (by decide) (by decide)) pm_int (by with_unfolding_all rfl))))))
def c__law_open : M Fl := (cSeq (cSet false 1 (cC (.int 12025)))
    (cSeq (cFor (cIts (cSl oCut (cName 0) cNoP (cPart (cC (.int 63))))) (.nm 2) (cSet false 1 (cBin oMod (cBlt gInt (cConsR (cBin oAdd (cBin oAdd (cBin oMul (cName 1) (cC (.int 52361))) (cBin oMul (cBin oMod (cBlt gInt (cConsR (cName 2) cNilR)) (cC (.int 1000303))) (cC (.int 877)))) (cC (.int 37))) cNilR)) (cC (.int 2147483587)))))
    (cRet (cLst (cConsD (cBlt gList (cConsR (cSl oCut (cName 0) cNoP (cPart (cC (.int 63)))) cNilR)) (cConsD (cC (.int 0)) (cConsD (cC (.int 0)) (cConsD (cName 1) (cConsD (cC (.int 0)) cNilD)))))))))
def m__law_open : List D → List Sl → Res Rv := defM 3 c__law_open
abbrev FD__law_open (K : PySem.W.Frag) (fd : FuncData) : Prop := FunD K dd__law_open.name dd__law_open.qual dd__law_open.params dd__law_open.body dd__law_open.scope (dd__law_open.dvs K) (dd__law_open.kws K) (He.fAd K dd__law_open.at_) fd
abbrev Ok__law_open (P : Program) (wd : World) (K : PySem.W.Frag) (mg : Str → Option Value) (base : Heap) : Prop := ∃ fd, FD__law_open K fd ∧ FnOk P wd K mg base (L2.CX P wd) 1 (He.fAd K dd__law_open.at_) fd ["_law_script"] (spM (Gk K) 1 m__law_open)
set_option maxHeartbeats 0 in
theorem ok__law_open {P : Program} {wd : World} {K : PySem.W.Frag} {mg : Str → Option Value} {base : Heap} (T : Tx K mg) (D0 : ∃ fd, FD__law_open K fd) : Ok__law_open P wd K mg base := by
  obtain ⟨fd, F⟩ := D0
  refine ⟨fd, F, ?_⟩
  · refine fn_dv (Γ := Gk K) (N := ["_law_script", "_law_mixed", "_law_cell"]) (ps := ["_law_script"]) (c := c__law_open) F sc__law_open fun cdv A outer s H E hr tk pas => ?_
    have hu : (A.deeper (envOfC dd__law_open.qual dd__law_open.scope s.heap.objs.size (He.fAd K dd__law_open.at_) cdv)).units + 64 < cLine := by have := hr.un; omega
    have hu1 : (A.deeper (envOfC dd__law_open.qual dd__law_open.scope s.heap.objs.size (He.fAd K dd__law_open.at_) cdv)).units + 1 < cLine := by omega
    exact (pms_cons (pms_set (own := false) pm_int (by decide) sc__law_open.nd rfl (.inl rfl) (.inl rfl) rfl rfl)
    (pms_cons (pms_for pas rfl (pmi_its rfl (pm_slice slAll bCut (pm_name 0 rfl (.inl rfl)) pmo_none (pmo_some pm_int))) (pg_name (i := 2) sc__law_open.nd rfl (.inl rfl) (.inl rfl)) (tg_nm 2) (fun _ h => by cases h) (pms_one (pms_set (own := false) (pm_bin op_mod bMod (pm_ty call_int1 okInt rfl T.f_int (by rfl) (pmr_cons (pm_bin opAdd bAdd (pm_bin opAdd bAdd (pm_bin opMul bMul (pm_name 1 rfl (.inl rfl)) pm_int) (pm_bin opMul bMul (pm_bin op_mod bMod (pm_ty call_int1 okInt rfl T.f_int (by rfl) (pmr_cons (pm_name 2 rfl (.inl rfl)) pmr_nil rfl) rfl rfl (by decide) (by decide)) pm_int) pm_int)) pm_int) pmr_nil rfl) rfl rfl (by decide) (by decide)) pm_int) (by decide) sc__law_open.nd rfl (.inl rfl) (.inl rfl) rfl rfl)) (fun _ => rfl))
    (pms_one (pms_ret (pm_lst (pma_cons (pm_ty (crList rfl) okList rfl T.f_list (by rfl) (pmr_cons (pm_slice slAll bCut (pm_name 0 rfl (.inl rfl)) pmo_none (pmo_some pm_int)) pmr_nil rfl) rfl rfl (by decide) (by decide)) (pma_cons pm_int (pma_cons pm_int (pma_cons (pm_name 1 rfl (.inl rfl)) (pma_cons pm_int pma_nil rfl) rfl) rfl) rfl) rfl))))))
def c__law_draw : M Fl := (cSeq (cPut stS (cBin oAdd (cBin oGet (cName 0) (cC (.int 4))) (cC (.int 1))) (cName 0) (cC (.int 4)))
    (cSeq (cIfS (cAndB (cTst (cBin (oEq false) (cBin oGet (cName 0) (cC (.int 2))) (cC (.int 0)))) (cTst (cBin oLt (cBin oGet (cName 0) (cC (.int 1))) (cBlt gLen (cConsR (cBin oGet (cName 0) (cC (.int 0))) cNilR))))) (cSeq (cSet false 2 (cBin oGet (cBin oGet (cName 0) (cC (.int 0))) (cBin oGet (cName 0) (cC (.int 1)))))
    (cSeq (cPut stS (cBin oAdd (cBin oGet (cName 0) (cC (.int 1))) (cC (.int 1))) (cName 0) (cC (.int 1)))
    (cIfS (cTst (cBin oGe (cBlt gAbs (cConsR (cName 2) cNilR)) (cBin oPow (cC (.int 10)) (cC (.int 18))))) (cPut stS (cBlt gAbs (cConsR (cName 2) cNilR)) (cName 0) (cC (.int 2))) (cSeq (cSet false 3 (cBin oAdd (cBin oMul (cBin oMod (cBlt gInt (cConsR (cName 2) cNilR)) (cC (.int 1000303))) (cC (.int 769))) (cC (.int 41))))
    (cPut stS (cBin oMod (cBlt gInt (cConsR (cBin oAdd (cBin oMul (cBin oGet (cName 0) (cC (.int 3))) (cC (.int 43789))) (cName 3)) cNilR)) (cC (.int 2147483629))) (cName 0) (cC (.int 3))))))) cNx)
    (cSeq (cIfS (cTst (cBin oGt (cBin oGet (cName 0) (cC (.int 2))) (cC (.int 0)))) (cSeq (cSet false 4 (cBin oMod (cBlt gInt (cConsR (cBin oGet (cName 0) (cC (.int 2))) cNilR)) (cName 1)))
    (cSeq (cPut stS (cBin oFdiv (cBin oGet (cName 0) (cC (.int 2))) (cName 1)) (cName 0) (cC (.int 2)))
    (cRet (cName 4)))) cNx)
    (cSeq (cSet false 5 (cBin oGet (cName 0) (cC (.int 3))))
    (cSeq (cSet false 6 (cBin oAdd (cBin oAdd (cBin oMul (cName 5) (cC (.int 49031))) (cBin oMul (cBin oGet (cName 0) (cC (.int 4))) (cC (.int 110023)))) (cC (.int 60037))))
    (cSeq (cPut stS (cBin oMod (cBlt gInt (cConsR (cBin oAdd (cBin oMul (cBin oMul (cName 5) (cName 5)) (cC (.int 17))) (cName 6)) cNilR)) (cC (.int 2147483587))) (cName 0) (cC (.int 3)))
    (cRet (cBin oMod (cBlt gInt (cConsR (cBin oAdd (cBin oFdiv (cBin oGet (cName 0) (cC (.int 3))) (cC (.int 73))) (cBin oMul (cBin oMod (cBlt gInt (cConsR (cBin oGet (cName 0) (cC (.int 3))) cNilR)) (cC (.int 8009))) (cC (.int 61)))) cNilR)) (cName 1)))))))))
def m__law_draw : List D → List Sl → Res Rv := defM 7 c__law_draw
abbrev FD__law_draw (K : PySem.W.Frag) (fd : FuncData) : Prop := FunD K dd__law_draw.name dd__law_draw.qual dd__law_draw.params dd__law_draw.body dd__law_draw.scope (dd__law_draw.dvs K) (dd__law_draw.kws K) (He.fAd K dd__law_draw.at_) fd
abbrev Ok__law_draw (P : Program) (wd : World) (K : PySem.W.Frag) (mg : Str → Option Value) (base : Heap) : Prop := ∃ fd, FD__law_draw K fd ∧ FnOk P wd K mg base (L2.CX P wd) 1 (He.fAd K dd__law_draw.at_) fd ["_law_bag", "_law_sides"] (spM (Gk K) 2 m__law_draw)
set_option maxHeartbeats 0 in
theorem ok__law_draw {P : Program} {wd : World} {K : PySem.W.Frag} {mg : Str → Option Value} {base : Heap} (T : Tx K mg) (D0 : ∃ fd, FD__law_draw K fd) : Ok__law_draw P wd K mg base := by
  obtain ⟨fd, F⟩ := D0
  refine ⟨fd, F, ?_⟩
  · refine fn_dv (Γ := Gk K) (N := ["_law_bag", "_law_sides", "_law_cell", "_law_small", "_law_digit", "_law_seed", "_law_step"]) (ps := ["_law_bag", "_law_sides"]) (c := c__law_draw) F sc__law_draw fun cdv A outer s H E hr tk pas => ?_
    have hu : (A.deeper (envOfC dd__law_draw.qual dd__law_draw.scope s.heap.objs.size (He.fAd K dd__law_draw.at_) cdv)).units + 64 < cLine := by have := hr.un; omega
    have hu1 : (A.deeper (envOfC dd__law_draw.qual dd__law_draw.scope s.heap.objs.size (He.fAd K dd__law_draw.at_) cdv)).units + 1 < cLine := by omega
    exact (pms_cons (pms_put (pset_all hu1) sAll (pm_bin opAdd bAdd (pm_ix (ixAll hu1) bGet (pm_name 0 rfl (.inl rfl)) pm_int (fun _ _ => rfl)) pm_int) (pm_name 0 rfl (.inl rfl)) pm_int (fun _ => rfl) rfl rfl)
    (pms_cons (pms_if (PW.pt (pmw_and (pmt_cmp (opEq hu) bEq (pm_ix (ixAll hu1) bGet (pm_name 0 rfl (.inl rfl)) pm_int (fun _ _ => rfl)) pm_int (nomark _)) (pmw_and1 (pmt_cmp op_lt bLt (pm_ix (ixAll hu1) bGet (pm_name 0 rfl (.inl rfl)) pm_int (fun _ _ => rfl)) (pm_blt crLen okLen rfl T.f_len (by rfl) (pmr_cons (pm_ix (ixAll hu1) bGet (pm_name 0 rfl (.inl rfl)) pm_int (fun _ _ => rfl)) pmr_nil rfl) rfl rfl (by decide) (by decide)) (nomark _))))) (pms_cons (pms_set (own := false) (pm_ix (ixAll hu1) bGet (pm_ix (ixAll hu1) bGet (pm_name 0 rfl (.inl rfl)) pm_int (fun _ _ => rfl)) (pm_ix (ixAll hu1) bGet (pm_name 0 rfl (.inl rfl)) pm_int (fun _ _ => rfl)) (fun _ _ => rfl)) (by decide) sc__law_draw.nd rfl (.inl rfl) (.inl rfl) rfl rfl)
    (pms_cons (pms_put (pset_all hu1) sAll (pm_bin opAdd bAdd (pm_ix (ixAll hu1) bGet (pm_name 0 rfl (.inl rfl)) pm_int (fun _ _ => rfl)) pm_int) (pm_name 0 rfl (.inl rfl)) pm_int (fun _ => rfl) rfl rfl)
    (pms_one (pms_if (pmt_cmp op_ge bGe (pm_blt call_abs okAbs rfl T.f_abs (by rfl) (pmr_cons (pm_name 2 rfl (.inl rfl)) pmr_nil rfl) rfl rfl (by decide) (by decide)) (pm_bin op_pow bPow pm_int pm_int) (nomark _)) (pms_one (pms_put (pset_all hu1) sAll (pm_blt call_abs okAbs rfl T.f_abs (by rfl) (pmr_cons (pm_name 2 rfl (.inl rfl)) pmr_nil rfl) rfl rfl (by decide) (by decide)) (pm_name 0 rfl (.inl rfl)) pm_int (fun _ => rfl) rfl rfl)) (pms_cons (pms_set (own := false) (pm_bin opAdd bAdd (pm_bin opMul bMul (pm_bin op_mod bMod (pm_ty call_int1 okInt rfl T.f_int (by rfl) (pmr_cons (pm_name 2 rfl (.inl rfl)) pmr_nil rfl) rfl rfl (by decide) (by decide)) pm_int) pm_int) pm_int) (by decide) sc__law_draw.nd rfl (.inl rfl) (.inl rfl) rfl rfl)
    (pms_one (pms_put (pset_all hu1) sAll (pm_bin op_mod bMod (pm_ty call_int1 okInt rfl T.f_int (by rfl) (pmr_cons (pm_bin opAdd bAdd (pm_bin opMul bMul (pm_ix (ixAll hu1) bGet (pm_name 0 rfl (.inl rfl)) pm_int (fun _ _ => rfl)) pm_int) (pm_name 3 rfl (.inl rfl))) pmr_nil rfl) rfl rfl (by decide) (by decide)) pm_int) (pm_name 0 rfl (.inl rfl)) pm_int (fun _ => rfl) rfl rfl))))))) pms_nil)
    (pms_cons (pms_if (pmt_cmp op_gt bGt (pm_ix (ixAll hu1) bGet (pm_name 0 rfl (.inl rfl)) pm_int (fun _ _ => rfl)) pm_int (nomark _)) (pms_cons (pms_set (own := false) (pm_bin op_mod bMod (pm_ty call_int1 okInt rfl T.f_int (by rfl) (pmr_cons (pm_ix (ixAll hu1) bGet (pm_name 0 rfl (.inl rfl)) pm_int (fun _ _ => rfl)) pmr_nil rfl) rfl rfl (by decide) (by decide)) (pm_name 1 rfl (.inl rfl))) (by decide) sc__law_draw.nd rfl (.inl rfl) (.inl rfl) rfl rfl)
    (pms_cons (pms_put (pset_all hu1) sAll (pm_bin op_fdiv bFdiv (pm_ix (ixAll hu1) bGet (pm_name 0 rfl (.inl rfl)) pm_int (fun _ _ => rfl)) (pm_name 1 rfl (.inl rfl))) (pm_name 0 rfl (.inl rfl)) pm_int (fun _ => rfl) rfl rfl)
    (pms_one (pms_ret (pm_name 4 rfl (.inl rfl)))))) pms_nil)
    (pms_cons (pms_set (own := false) (pm_ix (ixAll hu1) bGet (pm_name 0 rfl (.inl rfl)) pm_int (fun _ _ => rfl)) (by decide) sc__law_draw.nd rfl (.inl rfl) (.inl rfl) rfl rfl)
    (pms_cons (pms_set (own := false) (pm_bin opAdd bAdd (pm_bin opAdd bAdd (pm_bin opMul bMul (pm_name 5 rfl (.inl rfl)) pm_int) (pm_bin opMul bMul (pm_ix (ixAll hu1) bGet (pm_name 0 rfl (.inl rfl)) pm_int (fun _ _ => rfl)) pm_int)) pm_int) (by decide) sc__law_draw.nd rfl (.inl rfl) (.inl rfl) rfl rfl)
    (pms_cons (pms_put (pset_all hu1) sAll (pm_bin op_mod bMod (pm_ty call_int1 okInt rfl T.f_int (by rfl) (pmr_cons (pm_bin opAdd bAdd (pm_bin opMul bMul (pm_bin opMul bMul (pm_name 5 rfl (.inl rfl)) (pm_name 5 rfl (.inl rfl))) pm_int) (pm_name 6 rfl (.inl rfl))) pmr_nil rfl) rfl rfl (by decide) (by decide)) pm_int) (pm_name 0 rfl (.inl rfl)) pm_int (fun _ => rfl) rfl rfl)
    (pms_one (pms_ret (pm_bin op_mod bMod (pm_ty call_int1 okInt rfl T.f_int (by rfl) (pmr_cons (pm_bin opAdd bAdd (pm_bin op_fdiv bFdiv (pm_ix (ixAll hu1) bGet (pm_name 0 rfl (.inl rfl)) pm_int (fun _ _ => rfl)) pm_int) (pm_bin opMul bMul (pm_bin op_mod bMod (pm_ty call_int1 okInt rfl T.f_int (by rfl) (pmr_cons (pm_ix (ixAll hu1) bGet (pm_name 0 rfl (.inl rfl)) pm_int (fun _ _ => rfl)) pmr_nil rfl) rfl rfl (by decide) (by decide)) pm_int) pm_int)) pmr_nil rfl) rfl rfl (by decide) (by decide)) (pm_name 1 rfl (.inl rfl)))))))))))
def c__law_of : M Fl := (cRet (cBin oGet (cName 1) (cCall m__law_draw 2 0 cb__law_draw_2M (cConsD (cName 0) (cConsD (cBlt gLen (cConsR (cName 1) cNilR)) cNilD)) cNilD)))
def m__law_of : List D → List Sl → Res Rv := defM 2 c__law_of
abbrev FD__law_of (K : PySem.W.Frag) (fd : FuncData) : Prop := FunD K dd__law_of.name dd__law_of.qual dd__law_of.params dd__law_of.body dd__law_of.scope (dd__law_of.dvs K) (dd__law_of.kws K) (He.fAd K dd__law_of.at_) fd
abbrev Ok__law_of (P : Program) (wd : World) (K : PySem.W.Frag) (mg : Str → Option Value) (base : Heap) : Prop := ∃ fd, FD__law_of K fd ∧ FnOk P wd K mg base (L2.CX P wd) 2 (He.fAd K dd__law_of.at_) fd ["_law_bag", "_law_things"] (spM (Gk K) 2 m__law_of)
set_option maxHeartbeats 0 in
theorem ok__law_of {P : Program} {wd : World} {K : PySem.W.Frag} {mg : Str → Option Value} {base : Heap} (T : Tx K mg) (C__law_draw : Ok__law_draw P wd K mg base) (D0 : ∃ fd, FD__law_of K fd) : Ok__law_of P wd K mg base := by
  obtain ⟨fd, F⟩ := D0
  obtain ⟨_, F__law_draw, G__law_draw⟩ := C__law_draw
  refine ⟨fd, F, ?_⟩
  · refine fn_dv (Γ := Gk K) (N := ["_law_bag", "_law_things"]) (ps := ["_law_bag", "_law_things"]) (c := c__law_of) F sc__law_of fun cdv A outer s H E hr tk pas => ?_
    have hu : (A.deeper (envOfC dd__law_of.qual dd__law_of.scope s.heap.objs.size (He.fAd K dd__law_of.at_) cdv)).units + 64 < cLine := by have := hr.un; omega
    have hu1 : (A.deeper (envOfC dd__law_of.qual dd__law_of.scope s.heap.objs.size (He.fAd K dd__law_of.at_) cdv)).units + 1 < cLine := by omega
    exact (pms_one (pms_ret (pm_ix (ixAll hu1) bGet (pm_name 1 rfl (.inl rfl)) (pm_callJ [] rfl G__law_draw (hr.mono (by decide)) rfl T.g__law_draw F__law_draw.kp (cb__law_draw_2 F__law_draw) tk (pma_cons (pm_name 0 rfl (.inl rfl)) (pma_cons (pm_blt crLen okLen rfl T.f_len (by rfl) (pmr_cons (pm_name 1 rfl (.inl rfl)) pmr_nil rfl) rfl rfl (by decide) (by decide)) pma_nil rfl) rfl) pmk_nil rfl rfl (by decide) rfl rfl) (fun _ _ => rfl))))
def c__law_same (rec : List D → List Sl → Res Rv) : M Fl := (cSeq (cIfS (cOrB (cTst (cBin (oIs false) (cName 1) (cC .non))) (cTst (cBin (oIs false) (cName 0) (cC .non)))) (cRet (cAnd (cBin (oIs false) (cName 1) (cC .non)) (cBin (oIs false) (cName 0) (cC .non)))) cNx)
    (cSeq (cIfS (cTru (cBlt (gIsi owT) (cConsR (cName 1) (cConsR (cTup (cConsD (cC (.ty "list")) (cConsD (cC (.ty "tuple")) cNilD))) cNilR)))) (cSeq (cIfS (cOrB (cTst (cBin (oEq true) (cBlt (gIsi owT) (cConsR (cName 0) (cConsR (cC (.ty "list")) cNilR))) (cBlt (gIsi owT) (cConsR (cName 1) (cConsR (cC (.ty "list")) cNilR))))) (cTst (cBin (oEq true) (cBlt (gIsi owT) (cConsR (cName 0) (cConsR (cC (.ty "tuple")) cNilR))) (cBlt (gIsi owT) (cConsR (cName 1) (cConsR (cC (.ty "tuple")) cNilR)))))) (cRet (cC (.bl false))) cNx)
    (cRet (cAnd (cBin (oEq false) (cBlt gLen (cConsR (cName 0) cNilR)) (cBlt gLen (cConsR (cName 1) cNilR))) (cBlt gAll (cConsR (cLc (cZip (cConsD (cName 0) (cConsD (cName 1) cNilD))) [2, 3] (.tp [2, 3]) cYes (cCall rec 2 0 cb__law_same_2M (cConsD (cName 2) (cConsD (cName 3) cNilD)) cNilD)) cNilR))))) cNx)
    (cSeq (cIfS (cOrB (cTst (cBin (oEq true) (cBlt (gIsi owT) (cConsR (cName 1) (cConsR (cC (.ty "bool")) cNilR))) (cBlt (gIsi owT) (cConsR (cName 0) (cConsR (cC (.ty "bool")) cNilR))))) (cTst (cBin (oEq true) (cBlt (gIsi owT) (cConsR (cName 1) (cConsR (cC (.ty "int")) cNilR))) (cBlt (gIsi owT) (cConsR (cName 0) (cConsR (cC (.ty "int")) cNilR)))))) (cRet (cC (.bl false))) cNx)
    (cRet (cAnd (cBin (oEq false) (cBlt (gIsi owT) (cConsR (cName 1) (cConsR (cC (.ty "str")) cNilR))) (cBlt (gIsi owT) (cConsR (cName 0) (cConsR (cC (.ty "str")) cNilR)))) (cBin (oEq false) (cName 0) (cName 1)))))))
def m__law_same : Nat → List D → List Sl → Res Rv
  | 0 => fun _ _ => .bad
  | n + 1 => defM 4 (c__law_same (m__law_same n))
abbrev FD__law_same (K : PySem.W.Frag) (fd : FuncData) : Prop := FunD K dd__law_same.name dd__law_same.qual dd__law_same.params dd__law_same.body dd__law_same.scope (dd__law_same.dvs K) (dd__law_same.kws K) (He.fAd K dd__law_same.at_) fd
abbrev Ok__law_same (n : Nat) (P : Program) (wd : World) (K : PySem.W.Frag) (mg : Str → Option Value) (base : Heap) : Prop := ∃ fd, FD__law_same K fd ∧ FnOk P wd K mg base (L2.CX P wd) (n + 0) (He.fAd K dd__law_same.at_) fd ["_law_found", "_law_due"] (spM (Gk K) 2 (m__law_same n))
set_option maxHeartbeats 0 in
theorem ok__law_same {P : Program} {wd : World} {K : PySem.W.Frag} {mg : Str → Option Value} {base : Heap} (T : Tx K mg) (D0 : ∃ fd, FD__law_same K fd) : ∀ n, Ok__law_same n P wd K mg base := by
  obtain ⟨fd, F⟩ := D0
  intro n
  induction n with
  | zero => exact ⟨fd, F, fn_zero⟩
  | succ n ih =>
    obtain ⟨_, F__law_same, G__law_same⟩ := ih
    rw [show n + 1 + 0 = (n + 0) + 1 by omega]
    refine ⟨fd, F, ?_⟩
    refine fn_dv (Γ := Gk K) (N := ["_law_found", "_law_due", "_law_a", "_law_b"]) (ps := ["_law_found", "_law_due"]) (c := (c__law_same (m__law_same n))) F sc__law_same fun cdv A outer s H E hr tk pas => ?_
    have hu : (A.deeper (envOfC dd__law_same.qual dd__law_same.scope s.heap.objs.size (He.fAd K dd__law_same.at_) cdv)).units + 64 < cLine := by have := hr.un; omega
    have hu1 : (A.deeper (envOfC dd__law_same.qual dd__law_same.scope s.heap.objs.size (He.fAd K dd__law_same.at_) cdv)).units + 1 < cLine := by omega
    exact (pms_cons (pms_if (PW.pt (pmw_or (pmt_cmp opIs bIs (pm_name 1 rfl (.inl rfl)) pm_non (nomark _)) (pmw_or1 (pmt_cmp opIs bIs (pm_name 0 rfl (.inl rfl)) pm_non (nomark _))))) (pms_one (pms_ret (pm_and rfl (pm_cmp opIs bIs (pm_name 1 rfl (.inl rfl)) pm_non (nomark _)) (pm_one (pm_cmp opIs bIs (pm_name 0 rfl (.inl rfl)) pm_non (nomark _)))))) pms_nil)
    (pms_cons (pms_if (pm_test rfl (pm_blt (CallR.or call_isi call_isiT) (CallOk.or (okIsO T.ow) (okIsM T.ow)) rfl T.f_isinstance (by rfl) (pmr_cons (pm_name 1 rfl (.inl rfl)) (pmr_cons (pm_tup (pma_cons (pm_gT T.f_list (by rfl) rfl (by decide) (by decide)) (pma_cons (pm_gT T.f_tuple (by rfl) rfl (by decide) (by decide)) pma_nil rfl) rfl)) pmr_nil rfl) rfl) rfl rfl (by decide) (by decide)) (fun _ => rfl)) (pms_cons (pms_if (PW.pt (pmw_or (pmt_cmp (opNe hu) bNe (pm_blt (CallR.or call_isi call_isiT) (CallOk.or (okIsO T.ow) (okIsM T.ow)) rfl T.f_isinstance (by rfl) (pmr_cons (pm_name 0 rfl (.inl rfl)) (pmr_cons (pm_gT T.f_list (by rfl) rfl (by decide) (by decide)) pmr_nil rfl) rfl) rfl rfl (by decide) (by decide)) (pm_blt (CallR.or call_isi call_isiT) (CallOk.or (okIsO T.ow) (okIsM T.ow)) rfl T.f_isinstance (by rfl) (pmr_cons (pm_name 1 rfl (.inl rfl)) (pmr_cons (pm_gT T.f_list (by rfl) rfl (by decide) (by decide)) pmr_nil rfl) rfl) rfl rfl (by decide) (by decide)) (nomark _)) (pmw_or1 (pmt_cmp (opNe hu) bNe (pm_blt (CallR.or call_isi call_isiT) (CallOk.or (okIsO T.ow) (okIsM T.ow)) rfl T.f_isinstance (by rfl) (pmr_cons (pm_name 0 rfl (.inl rfl)) (pmr_cons (pm_gT T.f_tuple (by rfl) rfl (by decide) (by decide)) pmr_nil rfl) rfl) rfl rfl (by decide) (by decide)) (pm_blt (CallR.or call_isi call_isiT) (CallOk.or (okIsO T.ow) (okIsM T.ow)) rfl T.f_isinstance (by rfl) (pmr_cons (pm_name 1 rfl (.inl rfl)) (pmr_cons (pm_gT T.f_tuple (by rfl) rfl (by decide) (by decide)) pmr_nil rfl) rfl) rfl rfl (by decide) (by decide)) (nomark _))))) (pms_one (pms_ret pm_bl)) pms_nil)
    (pms_one (pms_ret (pm_and rfl (pm_cmp (opEq hu) bEq (pm_blt crLen okLen rfl T.f_len (by rfl) (pmr_cons (pm_name 0 rfl (.inl rfl)) pmr_nil rfl) rfl rfl (by decide) (by decide)) (pm_blt crLen okLen rfl T.f_len (by rfl) (pmr_cons (pm_name 1 rfl (.inl rfl)) pmr_nil rfl) rfl rfl (by decide) (by decide)) (nomark _)) (pm_one (pm_blt (cr_all rfl) okAll rfl T.f_all (by rfl) (pmr_cons (pm_lc (own := [("_law_a", 2), ("_law_b", 3)]) rfl sc__law_same.nd (pmi_zip rfl rfl T.f_zip (pma_cons (pm_name 0 rfl (.inl rfl)) (pma_cons (pm_name 1 rfl (.inl rfl)) pma_nil rfl) rfl) rfl rfl) (show BlkOk ["_law_found", "_law_due", "_law_a", "_law_b"] (defScope s__law_same) _ _ from blkOk_by (by decide +kernel)) (tg_tp (is := [2, 3]) (n := 2) rfl) (by decide) (fun _ _ _ _ _ => (pg_tup rfl (pgs_cons (pg_name (i := 2) sc__law_same.nd rfl (.inl rfl) (.inr rfl)) (pgs_cons (pg_name (i := 3) sc__law_same.nd rfl (.inl rfl) (.inr rfl)) pgs_nil rfl) rfl) rfl rfl)) (fun _ _ _ _ _ => pms_yes) (fun _ _ _ _ _ => (pm_callJ [] rfl G__law_same hr rfl T.g__law_same F__law_same.kp (cb__law_same_2 F__law_same) DV.takes0 (pma_cons (pm_name 2 rfl (.inl rfl)) (pma_cons (pm_name 3 rfl (.inl rfl)) pma_nil rfl) rfl) pmk_nil rfl rfl (by decide) rfl rfl)) (fun _ => rfl)) pmr_nil rfl) rfl rfl (by decide) (by decide))))))) pms_nil)
    (pms_cons (pms_if (PW.pt (pmw_or (pmt_cmp (opNe hu) bNe (pm_blt (CallR.or call_isi call_isiT) (CallOk.or (okIsO T.ow) (okIsM T.ow)) rfl T.f_isinstance (by rfl) (pmr_cons (pm_name 1 rfl (.inl rfl)) (pmr_cons (pm_gT T.f_bool (by rfl) rfl (by decide) (by decide)) pmr_nil rfl) rfl) rfl rfl (by decide) (by decide)) (pm_blt (CallR.or call_isi call_isiT) (CallOk.or (okIsO T.ow) (okIsM T.ow)) rfl T.f_isinstance (by rfl) (pmr_cons (pm_name 0 rfl (.inl rfl)) (pmr_cons (pm_gT T.f_bool (by rfl) rfl (by decide) (by decide)) pmr_nil rfl) rfl) rfl rfl (by decide) (by decide)) (nomark _)) (pmw_or1 (pmt_cmp (opNe hu) bNe (pm_blt (CallR.or call_isi call_isiT) (CallOk.or (okIsO T.ow) (okIsM T.ow)) rfl T.f_isinstance (by rfl) (pmr_cons (pm_name 1 rfl (.inl rfl)) (pmr_cons (pm_gT T.f_int (by rfl) rfl (by decide) (by decide)) pmr_nil rfl) rfl) rfl rfl (by decide) (by decide)) (pm_blt (CallR.or call_isi call_isiT) (CallOk.or (okIsO T.ow) (okIsM T.ow)) rfl T.f_isinstance (by rfl) (pmr_cons (pm_name 0 rfl (.inl rfl)) (pmr_cons (pm_gT T.f_int (by rfl) rfl (by decide) (by decide)) pmr_nil rfl) rfl) rfl rfl (by decide) (by decide)) (nomark _))))) (pms_one (pms_ret pm_bl)) pms_nil)
    (pms_one (pms_ret (pm_and rfl (pm_cmp (opEq hu) bEq (pm_blt (CallR.or call_isi call_isiT) (CallOk.or (okIsO T.ow) (okIsM T.ow)) rfl T.f_isinstance (by rfl) (pmr_cons (pm_name 1 rfl (.inl rfl)) (pmr_cons (pm_gT T.f_str (by rfl) rfl (by decide) (by decide)) pmr_nil rfl) rfl) rfl rfl (by decide) (by decide)) (pm_blt (CallR.or call_isi call_isiT) (CallOk.or (okIsO T.ow) (okIsM T.ow)) rfl T.f_isinstance (by rfl) (pmr_cons (pm_name 0 rfl (.inl rfl)) (pmr_cons (pm_gT T.f_str (by rfl) rfl (by decide) (by decide)) pmr_nil rfl) rfl) rfl rfl (by decide) (by decide)) (nomark _)) (pm_one (pm_cmp (opEq hu) bEq (pm_name 0 rfl (.inl rfl)) (pm_name 1 rfl (.inl rfl)) (nomark _)))))))))
def c__law_none : M Fl := (cRet (cCall m__law_of 2 0 cb__law_of_2M (cConsD (cName 0) (cConsD (cBin oAdd (cLst (cConsD (cC .non) (cConsD (cC (.bl true)) (cConsD (cC (.str "A")) (cConsD (cTup cNilD) (cConsD (cLst (cConsD (cLst cNilD) cNilD)) (cConsD (cC (.str "a b")) cNilD))))))) (cName 1)) cNilD)) cNilD))
def m__law_none : List D → List Sl → Res Rv := defM 2 c__law_none
abbrev FD__law_none (K : PySem.W.Frag) (fd : FuncData) : Prop := FunD K dd__law_none.name dd__law_none.qual dd__law_none.params dd__law_none.body dd__law_none.scope (dd__law_none.dvs K) (dd__law_none.kws K) (He.fAd K dd__law_none.at_) fd
abbrev Ok__law_none (P : Program) (wd : World) (K : PySem.W.Frag) (mg : Str → Option Value) (base : Heap) : Prop := ∃ fd, FD__law_none K fd ∧ FnOk P wd K mg base (L2.CX P wd) 3 (He.fAd K dd__law_none.at_) fd ["_law_bag", "_law_more"] (spM (Gk K) 2 m__law_none)
set_option maxHeartbeats 0 in
theorem ok__law_none {P : Program} {wd : World} {K : PySem.W.Frag} {mg : Str → Option Value} {base : Heap} (T : Tx K mg) (C__law_of : Ok__law_of P wd K mg base) (D0 : ∃ fd, FD__law_none K fd) : Ok__law_none P wd K mg base := by
  obtain ⟨fd, F⟩ := D0
  obtain ⟨_, F__law_of, G__law_of⟩ := C__law_of
  refine ⟨fd, F, ?_⟩
  · refine fn_dv (Γ := Gk K) (N := ["_law_bag", "_law_more"]) (ps := ["_law_bag", "_law_more"]) (c := c__law_none) F sc__law_none fun cdv A outer s H E hr tk pas => ?_
    have hu : (A.deeper (envOfC dd__law_none.qual dd__law_none.scope s.heap.objs.size (He.fAd K dd__law_none.at_) cdv)).units + 64 < cLine := by have := hr.un; omega
    have hu1 : (A.deeper (envOfC dd__law_none.qual dd__law_none.scope s.heap.objs.size (He.fAd K dd__law_none.at_) cdv)).units + 1 < cLine := by omega
    exact (pms_one (pms_ret (pm_callJ [] rfl G__law_of (hr.mono (by decide)) rfl T.g__law_of F__law_of.kp (cb__law_of_2 F__law_of) tk (pma_cons (pm_name 0 rfl (.inl rfl)) (pma_cons (pm_bin opAdd bAdd (pm_lst (pma_cons pm_non (pma_cons pm_bl (pma_cons pm_str (pma_cons (pm_tup pma_nil) (pma_cons (pm_lst (pma_cons (pm_lst pma_nil) pma_nil rfl)) (pma_cons pm_str pma_nil rfl) rfl) rfl) rfl) rfl) rfl)) (pm_name 1 rfl (.inl rfl))) pma_nil rfl) rfl) pmk_nil rfl rfl (by decide) rfl rfl)))
def c__law_only : M Fl := (cRet (cBin (oEq false) (cLc (cIts (cName 0)) [2] (.nm 2) (cTst (cBin (oIn true) (cName 2) (cName 1))) (cName 2)) (cLst cNilD)))
def m__law_only : List D → List Sl → Res Rv := defM 3 c__law_only
abbrev FD__law_only (K : PySem.W.Frag) (fd : FuncData) : Prop := FunD K dd__law_only.name dd__law_only.qual dd__law_only.params dd__law_only.body dd__law_only.scope (dd__law_only.dvs K) (dd__law_only.kws K) (He.fAd K dd__law_only.at_) fd
abbrev Ok__law_only (P : Program) (wd : World) (K : PySem.W.Frag) (mg : Str → Option Value) (base : Heap) : Prop := ∃ fd, FD__law_only K fd ∧ FnOk P wd K mg base (L2.CX P wd) 1 (He.fAd K dd__law_only.at_) fd ["_law_text", "_law_signs"] (spM (Gk K) 2 m__law_only)
set_option maxHeartbeats 0 in
theorem ok__law_only {P : Program} {wd : World} {K : PySem.W.Frag} {mg : Str → Option Value} {base : Heap} (T : Tx K mg) (D0 : ∃ fd, FD__law_only K fd) : Ok__law_only P wd K mg base := by
  obtain ⟨fd, F⟩ := D0
  refine ⟨fd, F, ?_⟩
  · refine fn_dv (Γ := Gk K) (N := ["_law_text", "_law_signs", "_law_sign"]) (ps := ["_law_text", "_law_signs"]) (c := c__law_only) F sc__law_only fun cdv A outer s H E hr tk pas => ?_
    have hu : (A.deeper (envOfC dd__law_only.qual dd__law_only.scope s.heap.objs.size (He.fAd K dd__law_only.at_) cdv)).units + 64 < cLine := by have := hr.un; omega
    have hu1 : (A.deeper (envOfC dd__law_only.qual dd__law_only.scope s.heap.objs.size (He.fAd K dd__law_only.at_) cdv)).units + 1 < cLine := by omega
    exact (pms_one (pms_ret (pm_cmp (opEq hu) bEq (pm_lc (own := [("_law_sign", 2)]) rfl sc__law_only.nd (pmi_its rfl (pm_name 0 rfl (.inl rfl))) (show BlkOk ["_law_text", "_law_signs", "_law_sign"] (defScope s__law_only) _ _ from blkOk_by (by decide +kernel)) (tg_nm 2) (by decide) (fun _ _ _ _ _ => (pg_name (i := 2) sc__law_only.nd rfl (.inl rfl) (.inr rfl))) (fun _ _ _ _ _ => (pms_test (pmt_cmp (opNotIn hu1) bNotIn (pm_name 2 rfl (.inl rfl)) (pm_name 1 rfl (.inr (.inl rfl))) (by with_unfolding_all rfl)))) (fun _ _ _ _ _ => (pm_name 2 rfl (.inl rfl))) (fun _ => rfl)) (pm_lst pma_nil) (nomark _))))
def c_law : M Fl := (cSeq (cSto 1 (cCall m__law_open 1 0 cb__law_open_1M (cConsD (cName 0) cNilD) cNilD))
    (cSeq (cFor (cRng1 (cConsD (cC (.int 6)) cNilD)) (.nm 2) (cSeq (cSet false 3 (cMt "str" gJoin (cC (.str "")) (cConsR (cLc (cRng1 (cConsD (cCall m__law_draw 2 0 cb__law_draw_2M (cConsD (cName 1) (cConsD (cC (.int 9)) cNilD)) cNilD) cNilD)) [16] (.nm 16) cYes (cCall m__law_of 2 0 cb__law_of_2M (cConsD (cName 1) (cConsD (cC (.str "abmzqAZ09_ -xy")) cNilD)) cNilD)) cNilR)))
    (cSeq (cSet false 4 (cMt "str" gJoin (cC (.str "")) (cConsR (cLc (cRng1 (cConsD (cCall m__law_draw 2 0 cb__law_draw_2M (cConsD (cName 1) (cConsD (cC (.int 8)) cNilD)) cNilD) cNilD)) [16] (.nm 16) cYes (cCall m__law_of 2 0 cb__law_of_2M (cConsD (cName 1) (cConsD (cC (.str "abcxyz0189")) cNilD)) cNilD)) cNilR)))
    (cSeq (cSet false 5 (cMt "str" gJoin (cC (.str "")) (cConsR (cLc (cRng1 (cConsD (cCall m__law_draw 2 0 cb__law_draw_2M (cConsD (cName 1) (cConsD (cC (.int 9)) cNilD)) cNilD) cNilD)) [16] (.nm 16) cYes (cCall m__law_of 2 0 cb__law_of_2M (cConsD (cName 1) (cConsD (cC (.str "abcdefghijklmnopqrstuvwxyz")) cNilD)) cNilD)) cNilR)))
    (cSeq (cSet false 6 (cCall m__law_none 2 0 cb__law_none_2M (cConsD (cName 1) (cConsD (cLst (cConsD (cC (.str "")) (cConsD (cC (.str "abcdef")) (cConsD (cC (.str "abcdefg")) (cConsD (cC (.str "aa")) (cConsD (cC (.str "a\n")) (cConsD (cLst (cConsD (cC (.str "a")) cNilD)) (cConsD (cTup (cConsD (cC (.str "a")) cNilD)) (cConsD (cC (.int 3)) cNilD))))))))) cNilD)) cNilD))
    (cSeq (cFor (cIts (cLst (cConsD (cName 3) (cConsD (cName 4) (cConsD (cName 5) (cConsD (cName 6) cNilD)))))) (.nm 7) (cSeq (cSet false 8 (cAnd (cBlt (gIsi owT) (cConsR (cName 7) (cConsR (cC (.ty "str")) cNilR))) (cAnd (cChain oLe oLe (cC (.int 1)) (cBlt gLen (cConsR (cName 7) cNilR)) (cC (.int 5))) (cCall m__law_only 2 0 cb__law_only_2M (cConsD (cName 7) (cConsD (cC (.str "abcdefghijklmnopqrstuvwxyz0123456789")) cNilD)) cNilD))))
    (cSeq (cSet false 8 (cAnd (cName 8) (cBin (oEq false) (cLc (cRng1 (cConsD (cBlt gLen (cConsR (cName 7) cNilR)) cNilD)) [16] (.nm 16) (cTst (cBin (oIn false) (cBin oGet (cName 7) (cName 16)) (cSl oCut (cName 7) cNoP (cPart (cName 16))))) (cName 16)) (cLst cNilD))))
    (cSeq (cSet false 9 (cAnd (cBlt (gIsi owT) (cConsR (cName 7) (cConsR (cC (.ty "str")) cNilR))) (cAnd (cChain oLe oLe (cC (.int 1)) (cBlt gLen (cConsR (cName 7) cNilR)) (cC (.int 6))) (cCall m__law_only 2 0 cb__law_only_2M (cConsD (cName 7) (cConsD (cC (.str "abcdefghijklmnopqrstuvwxyz")) cNilD)) cNilD))))
    (cIfS (cNotB (cTru (cCall (m__law_same 6) 2 0 cb__law_same_2M (cConsD (cLst (cConsD (cCall m_is_symbols 1 0 cb_is_symbols_1M (cConsD (cName 7) cNilD) cNilD) (cConsD (cCall m_is_symbols 0 1 cb_is_symbols_0_valueM cNilD (cConsD (cName 7) cNilD)) (cConsD (cCall m_is_name 1 0 cb_is_name_1M (cConsD (cName 7) cNilD) cNilD) (cConsD (cCall m_is_name 0 1 cb_is_name_0_valueM cNilD (cConsD (cName 7) cNilD)) cNilD))))) (cConsD (cLst (cConsD (cName 8) (cConsD (cName 8) (cConsD (cName 9) (cConsD (cName 9) cNilD))))) cNilD)) cNilD))) (cRet (cC (.bl false))) cNx)))))
    (cSeq (cPar 10 11 (cConsD (cBin oSub (cCall m__law_draw 2 0 cb__law_draw_2M (cConsD (cName 1) (cConsD (cC (.int 9)) cNilD)) cNilD) (cC (.int 4))) (cConsD (cCall m__law_draw 2 0 cb__law_draw_2M (cConsD (cName 1) (cConsD (cC (.int 3)) cNilD)) cNilD) cNilD)))
    (cSeq (cFor (cRng2 (cConsD (cBin oSub (cName 10) (cC (.int 2))) (cConsD (cBin oAdd (cBin oAdd (cName 10) (cName 11)) (cC (.int 3))) cNilD))) (.nm 12) (cSeq (cSet false 13 (cChain oLe oLe (cName 10) (cName 12) (cBin oAdd (cName 10) (cName 11))))
    (cIfS (cNotB (cTru (cCall (m__law_same 6) 2 0 cb__law_same_2M (cConsD (cLst (cConsD (cCall m_is_number 1 2 cb_is_number_1_least_mostM (cConsD (cName 12) cNilD) (cConsD (cName 10) (cConsD (cBin oAdd (cName 10) (cName 11)) cNilD))) (cConsD (cCall m_is_number 0 2 cb_is_number_0_most_valueM cNilD (cConsD (cName 12) (cConsD (cName 10) cNilD))) (cConsD (cCall m_is_number 1 1 cb_is_number_1_leastM (cConsD (cName 12) cNilD) (cConsD (cName 10) cNilD)) cNilD)))) (cConsD (cLst (cConsD (cName 13) (cConsD (cBin oLe (cName 10) (cName 12)) (cConsD (cBin oLe (cName 10) (cName 12)) cNilD)))) cNilD)) cNilD))) (cRet (cC (.bl false))) cNx)))
    (cSeq (cSet false 14 (cCall m__law_of 2 0 cb__law_of_2M (cConsD (cName 1) (cConsD (cLst (cConsD (cC .non) (cConsD (cC (.bl true)) (cConsD (cC (.bl false)) (cConsD (cC (.str "0")) (cConsD (cTup (cConsD (cC (.int 0)) cNilD)) (cConsD (cLst (cConsD (cC (.int 0)) cNilD)) cNilD))))))) cNilD)) cNilD))
    (cIfS (cOrB (cTst (cBin (oIs true) (cCall m_is_number 1 0 cb_is_number_1M (cConsD (cName 14) cNilD) cNilD) (cC (.bl false)))) (cTst (cBin (oIs true) (cCall m_is_number 1 1 cb_is_number_1_leastM (cConsD (cName 14) cNilD) (cConsD (cC (.int 0)) cNilD)) (cC (.bl false))))) (cRet (cC (.bl false))) cNx))))))))))
    (cSeq (cSet false 15 (cLst (cConsD (cCall m_is_number 1 0 cb_is_number_1M (cConsD (cBin oPow (cC (.int 10)) (cC (.int 30))) cNilD) cNilD) (cConsD (cCall m_is_number 1 0 cb_is_number_1M (cConsD (cBin oAdd (cBin oPow (cC (.int 10)) (cC (.int 30))) (cC (.int 1))) cNilD) cNilD) (cConsD (cCall m_is_number 1 0 cb_is_number_1M (cConsD (cNeg (cBin oPow (cC (.int 10)) (cC (.int 30)))) cNilD) cNilD) (cConsD (cCall m_is_number 1 0 cb_is_number_1M (cConsD (cBin oSub (cNeg (cBin oPow (cC (.int 10)) (cC (.int 30)))) (cC (.int 1))) cNilD) cNilD) cNilD))))))
    (cSeq (cIfS (cNotB (cTru (cCall (m__law_same 6) 2 0 cb__law_same_2M (cConsD (cName 15) (cConsD (cLst (cConsD (cC (.bl true)) (cConsD (cC (.bl false)) (cConsD (cC (.bl true)) (cConsD (cC (.bl false)) cNilD))))) cNilD)) cNilD))) (cRet (cC (.bl false))) cNx)
    (cRet (cCall (m__law_same 6) 2 0 cb__law_same_2M (cConsD (cLst (cConsD (cC (.int 1000000000000000000000000000000)) (cConsD (cC (.kt [.str "late", .str "early"])) (cConsD (cC (.str "endless")) (cConsD (cC (.str "never")) (cConsD (cC (.str "calm")) cNilD)))))) (cConsD (cLst (cConsD (cBin oPow (cC (.int 10)) (cC (.int 30))) (cConsD (cTup (cConsD (cC (.str "late")) (cConsD (cC (.str "early")) cNilD))) (cConsD (cC (.str "endless")) (cConsD (cC (.str "never")) (cConsD (cC (.str "calm")) cNilD)))))) cNilD)) cNilD))))))
def m_law : List D → List Sl → Res Rv := defM 17 c_law
abbrev FD_law (K : PySem.W.Frag) (fd : FuncData) : Prop := FunD K dd_law.name dd_law.qual dd_law.params dd_law.body dd_law.scope (dd_law.dvs K) (dd_law.kws K) (He.fAd K dd_law.at_) fd
abbrev Ok_law (P : Program) (wd : World) (K : PySem.W.Frag) (mg : Str → Option Value) (base : Heap) : Prop := ∃ fd, FD_law K fd ∧ FnOk P wd K mg base (L2.CX P wd) 7 (He.fAd K dd_law.at_) fd ["_law_script"] (spM (Gk K) 1 m_law)
set_option maxHeartbeats 0 in
theorem ok_law {P : Program} {wd : World} {K : PySem.W.Frag} {mg : Str → Option Value} {base : Heap} (T : Tx K mg) (C__law_open : Ok__law_open P wd K mg base) (C__law_draw : Ok__law_draw P wd K mg base) (C__law_of : Ok__law_of P wd K mg base) (C__law_none : Ok__law_none P wd K mg base) (C__law_only : Ok__law_only P wd K mg base) (C__law_same : Ok__law_same 6 P wd K mg base) (C_is_symbols : Ok_is_symbols P wd K mg base) (C_is_name : Ok_is_name P wd K mg base) (C_is_number : Ok_is_number P wd K mg base) (D0 : ∃ fd, FD_law K fd) : Ok_law P wd K mg base := by
  obtain ⟨fd, F⟩ := D0
  obtain ⟨_, F__law_open, G__law_open⟩ := C__law_open
  obtain ⟨_, F__law_draw, G__law_draw⟩ := C__law_draw
  obtain ⟨_, F__law_of, G__law_of⟩ := C__law_of
  obtain ⟨_, F__law_none, G__law_none⟩ := C__law_none
  obtain ⟨_, F__law_only, G__law_only⟩ := C__law_only
  obtain ⟨_, F__law_same, G__law_same⟩ := C__law_same
  obtain ⟨_, F_is_symbols, G_is_symbols⟩ := C_is_symbols
  obtain ⟨_, F_is_name, G_is_name⟩ := C_is_name
  obtain ⟨_, F_is_number, G_is_number⟩ := C_is_number
  refine ⟨fd, F, ?_⟩
  · refine fn_dv (Γ := Gk K) (N := ["_law_script", "_law_bag", "_law_turn", "_law_text", "_law_plain", "_law_letters", "_law_odd", "_law_one", "_law_good", "_law_named", "_law_floor", "_law_size", "_law_number", "_law_due", "_law_bad", "_law_ends", "_law_k"]) (ps := ["_law_script"]) (c := c_law) F sc_law fun cdv A outer s H E hr tk pas => ?_
    have hu : (A.deeper (envOfC dd_law.qual dd_law.scope s.heap.objs.size (He.fAd K dd_law.at_) cdv)).units + 64 < cLine := by have := hr.un; omega
    have hu1 : (A.deeper (envOfC dd_law.qual dd_law.scope s.heap.objs.size (He.fAd K dd_law.at_) cdv)).units + 1 < cLine := by omega
    exact (pms_cons (pms_sto (pm_callJ [] rfl G__law_open (hr.mono (by decide)) rfl T.g__law_open F__law_open.kp (cb__law_open_1 F__law_open) tk (pma_cons (pm_name 0 rfl (.inl rfl)) pma_nil rfl) pmk_nil rfl rfl (by decide) rfl rfl) (by decide) sc_law.nd rfl (.inr rfl) (.inl rfl) rfl rfl)
    (pms_cons (pms_for pas rfl (pmi_rng1 rfl T.f_range (pma_cons pm_int pma_nil rfl) rfl) (pg_name (i := 2) sc_law.nd rfl (.inl rfl) (.inl rfl)) (tg_nm 2) (fun _ h => by cases h) (pms_cons (pms_set (own := false) (pm_mt rfl PySem.F.plainAttrs_str PySem.F.slot_str_join PySem.F.type_str_join mt_join okJoin pm_str (pmr_cons (pm_lc (own := [("_law_k", 16)]) rfl sc_law.nd (pmi_rng1 rfl T.f_range (pma_cons (pm_callJ [] rfl G__law_draw (hr.mono (by decide)) rfl T.g__law_draw F__law_draw.kp (cb__law_draw_2 F__law_draw) tk (pma_cons (pm_name 1 rfl (.inr (.inl rfl))) (pma_cons pm_int pma_nil rfl) rfl) pmk_nil rfl rfl (by decide) rfl rfl) pma_nil rfl) rfl) (show BlkOk ["_law_script", "_law_bag", "_law_turn", "_law_text", "_law_plain", "_law_letters", "_law_odd", "_law_one", "_law_good", "_law_named", "_law_floor", "_law_size", "_law_number", "_law_due", "_law_bad", "_law_ends", "_law_k"] (defScope s_law) _ _ from blkOk_by (by decide +kernel)) (tg_nm 16) (by decide) (fun _ _ _ _ _ => (pg_name (i := 16) sc_law.nd rfl (.inl rfl) (.inr rfl))) (fun _ _ _ _ _ => pms_yes) (fun _ _ _ _ _ => (pm_callJ [] rfl G__law_of (hr.mono (by decide)) rfl T.g__law_of F__law_of.kp (cb__law_of_2 F__law_of) DV.takes0 (pma_cons (pm_name 1 rfl (.inr (.inl rfl))) (pma_cons pm_str pma_nil rfl) rfl) pmk_nil rfl rfl (by decide) rfl rfl)) (fun _ => rfl)) pmr_nil rfl) rfl rfl rfl rfl rfl) (by decide) sc_law.nd rfl (.inl rfl) (.inl rfl) rfl rfl)
    (pms_cons (pms_set (own := false) (pm_mt rfl PySem.F.plainAttrs_str PySem.F.slot_str_join PySem.F.type_str_join mt_join okJoin pm_str (pmr_cons (pm_lc (own := [("_law_k", 16)]) rfl sc_law.nd (pmi_rng1 rfl T.f_range (pma_cons (pm_callJ [] rfl G__law_draw (hr.mono (by decide)) rfl T.g__law_draw F__law_draw.kp (cb__law_draw_2 F__law_draw) tk (pma_cons (pm_name 1 rfl (.inr (.inl rfl))) (pma_cons pm_int pma_nil rfl) rfl) pmk_nil rfl rfl (by decide) rfl rfl) pma_nil rfl) rfl) (show BlkOk ["_law_script", "_law_bag", "_law_turn", "_law_text", "_law_plain", "_law_letters", "_law_odd", "_law_one", "_law_good", "_law_named", "_law_floor", "_law_size", "_law_number", "_law_due", "_law_bad", "_law_ends", "_law_k"] (defScope s_law) _ _ from blkOk_by (by decide +kernel)) (tg_nm 16) (by decide) (fun _ _ _ _ _ => (pg_name (i := 16) sc_law.nd rfl (.inl rfl) (.inr rfl))) (fun _ _ _ _ _ => pms_yes) (fun _ _ _ _ _ => (pm_callJ [] rfl G__law_of (hr.mono (by decide)) rfl T.g__law_of F__law_of.kp (cb__law_of_2 F__law_of) DV.takes0 (pma_cons (pm_name 1 rfl (.inr (.inl rfl))) (pma_cons pm_str pma_nil rfl) rfl) pmk_nil rfl rfl (by decide) rfl rfl)) (fun _ => rfl)) pmr_nil rfl) rfl rfl rfl rfl rfl) (by decide) sc_law.nd rfl (.inl rfl) (.inl rfl) rfl rfl)
    (pms_cons (pms_set (own := false) (pm_mt rfl PySem.F.plainAttrs_str PySem.F.slot_str_join PySem.F.type_str_join mt_join okJoin pm_str (pmr_cons (pm_lc (own := [("_law_k", 16)]) rfl sc_law.nd (pmi_rng1 rfl T.f_range (pma_cons (pm_callJ [] rfl G__law_draw (hr.mono (by decide)) rfl T.g__law_draw F__law_draw.kp (cb__law_draw_2 F__law_draw) tk (pma_cons (pm_name 1 rfl (.inr (.inl rfl))) (pma_cons pm_int pma_nil rfl) rfl) pmk_nil rfl rfl (by decide) rfl rfl) pma_nil rfl) rfl) (show BlkOk ["_law_script", "_law_bag", "_law_turn", "_law_text", "_law_plain", "_law_letters", "_law_odd", "_law_one", "_law_good", "_law_named", "_law_floor", "_law_size", "_law_number", "_law_due", "_law_bad", "_law_ends", "_law_k"] (defScope s_law) _ _ from blkOk_by (by decide +kernel)) (tg_nm 16) (by decide) (fun _ _ _ _ _ => (pg_name (i := 16) sc_law.nd rfl (.inl rfl) (.inr rfl))) (fun _ _ _ _ _ => pms_yes) (fun _ _ _ _ _ => (pm_callJ [] rfl G__law_of (hr.mono (by decide)) rfl T.g__law_of F__law_of.kp (cb__law_of_2 F__law_of) DV.takes0 (pma_cons (pm_name 1 rfl (.inr (.inl rfl))) (pma_cons pm_str pma_nil rfl) rfl) pmk_nil rfl rfl (by decide) rfl rfl)) (fun _ => rfl)) pmr_nil rfl) rfl rfl rfl rfl rfl) (by decide) sc_law.nd rfl (.inl rfl) (.inl rfl) rfl rfl)
    (pms_cons (pms_set (own := false) (pm_callJ [] rfl G__law_none (hr.mono (by decide)) rfl T.g__law_none F__law_none.kp (cb__law_none_2 F__law_none) tk (pma_cons (pm_name 1 rfl (.inr (.inl rfl))) (pma_cons (pm_lst (pma_cons pm_str (pma_cons pm_str (pma_cons pm_str (pma_cons pm_str (pma_cons pm_str (pma_cons (pm_lst (pma_cons pm_str pma_nil rfl)) (pma_cons (pm_tup (pma_cons pm_str pma_nil rfl)) (pma_cons pm_int pma_nil rfl) rfl) rfl) rfl) rfl) rfl) rfl) rfl)) pma_nil rfl) rfl) pmk_nil rfl rfl (by decide) rfl rfl) (by decide) sc_law.nd rfl (.inl rfl) (.inl rfl) rfl rfl)
    (pms_cons (pms_for pas rfl (pmi_its rfl (pm_lst (pma_cons (pm_name 3 rfl (.inl rfl)) (pma_cons (pm_name 4 rfl (.inl rfl)) (pma_cons (pm_name 5 rfl (.inl rfl)) (pma_cons (pm_name 6 rfl (.inl rfl)) pma_nil rfl) rfl) rfl) rfl))) (pg_name (i := 7) sc_law.nd rfl (.inr rfl) (.inl rfl)) (tg_nm 7) (fun _ h => by cases h) (pms_cons (pms_set (own := false) (pm_and rfl (pm_blt (CallR.or call_isi call_isiT) (CallOk.or (okIsO T.ow) (okIsM T.ow)) rfl T.f_isinstance (by rfl) (pmr_cons (pm_name 7 rfl (.inr (.inl rfl))) (pmr_cons (pm_gT T.f_str (by rfl) rfl (by decide) (by decide)) pmr_nil rfl) rfl) rfl rfl (by decide) (by decide)) (pm_and rfl (pm_chain op_le op_le bLe bLe pm_int (pm_blt crLen okLen rfl T.f_len (by rfl) (pmr_cons (pm_name 7 rfl (.inr (.inl rfl))) pmr_nil rfl) rfl rfl (by decide) (by decide)) pm_int (by with_unfolding_all rfl)) (pm_one (pm_callJ [] rfl G__law_only (hr.mono (by decide)) rfl T.g__law_only F__law_only.kp (cb__law_only_2 F__law_only) tk (pma_cons (pm_name 7 rfl (.inr (.inl rfl))) (pma_cons pm_str pma_nil rfl) rfl) pmk_nil rfl rfl (by decide) rfl rfl)))) (by decide) sc_law.nd rfl (.inl rfl) (.inl rfl) rfl rfl)
    (pms_cons (pms_set (own := false) (pm_and rfl (pm_name 8 rfl (.inl rfl)) (pm_one (pm_cmp (opEq hu) bEq (pm_lc (own := [("_law_k", 16)]) rfl sc_law.nd (pmi_rng1 rfl T.f_range (pma_cons (pm_blt crLen okLen rfl T.f_len (by rfl) (pmr_cons (pm_name 7 rfl (.inr (.inl rfl))) pmr_nil rfl) rfl rfl (by decide) (by decide)) pma_nil rfl) rfl) (show BlkOk ["_law_script", "_law_bag", "_law_turn", "_law_text", "_law_plain", "_law_letters", "_law_odd", "_law_one", "_law_good", "_law_named", "_law_floor", "_law_size", "_law_number", "_law_due", "_law_bad", "_law_ends", "_law_k"] (defScope s_law) _ _ from blkOk_by (by decide +kernel)) (tg_nm 16) (by decide) (fun _ _ _ _ _ => (pg_name (i := 16) sc_law.nd rfl (.inl rfl) (.inr rfl))) (fun _ _ _ _ _ => (pms_test (pmt_cmp (opIn hu1) bIn (pm_ix (ixAll hu1) bGet (pm_name 7 rfl (.inr (.inl rfl))) (pm_name 16 rfl (.inl rfl)) (fun _ _ => rfl)) (pm_slice slAll bCut (pm_name 7 rfl (.inr (.inl rfl))) pmo_none (pmo_some (pm_name 16 rfl (.inl rfl)))) (by with_unfolding_all rfl)))) (fun _ _ _ _ _ => (pm_name 16 rfl (.inl rfl))) (fun _ => rfl)) (pm_lst pma_nil) (nomark _)))) (by decide) sc_law.nd rfl (.inl rfl) (.inl rfl) rfl rfl)
    (pms_cons (pms_set (own := false) (pm_and rfl (pm_blt (CallR.or call_isi call_isiT) (CallOk.or (okIsO T.ow) (okIsM T.ow)) rfl T.f_isinstance (by rfl) (pmr_cons (pm_name 7 rfl (.inr (.inl rfl))) (pmr_cons (pm_gT T.f_str (by rfl) rfl (by decide) (by decide)) pmr_nil rfl) rfl) rfl rfl (by decide) (by decide)) (pm_and rfl (pm_chain op_le op_le bLe bLe pm_int (pm_blt crLen okLen rfl T.f_len (by rfl) (pmr_cons (pm_name 7 rfl (.inr (.inl rfl))) pmr_nil rfl) rfl rfl (by decide) (by decide)) pm_int (by with_unfolding_all rfl)) (pm_one (pm_callJ [] rfl G__law_only (hr.mono (by decide)) rfl T.g__law_only F__law_only.kp (cb__law_only_2 F__law_only) tk (pma_cons (pm_name 7 rfl (.inr (.inl rfl))) (pma_cons pm_str pma_nil rfl) rfl) pmk_nil rfl rfl (by decide) rfl rfl)))) (by decide) sc_law.nd rfl (.inl rfl) (.inl rfl) rfl rfl)
    (pms_one (pms_if (pm_not (pm_test rfl (pm_callJ [] rfl G__law_same (hr.mono (by decide)) rfl T.g__law_same F__law_same.kp (cb__law_same_2 F__law_same) tk (pma_cons (pm_lst (pma_cons (pm_callJ [] rfl G_is_symbols (hr.mono (by decide)) rfl T.g_is_symbols F_is_symbols.kp (cb_is_symbols_1 F_is_symbols) tk (pma_cons (pm_name 7 rfl (.inr (.inl rfl))) pma_nil rfl) pmk_nil rfl rfl (by decide) rfl rfl) (pma_cons (pm_callJ0 ["value"] rfl G_is_symbols (hr.mono (by decide)) rfl T.g_is_symbols F_is_symbols.kp (cb_is_symbols_0_value F_is_symbols) tk (pmk_cons (pm_name 7 rfl (.inr (.inl rfl))) pmk_nil) rfl rfl (by decide) rfl) (pma_cons (pm_callJ [] rfl G_is_name (hr.mono (by decide)) rfl T.g_is_name F_is_name.kp (cb_is_name_1 F_is_name) tk (pma_cons (pm_name 7 rfl (.inr (.inl rfl))) pma_nil rfl) pmk_nil rfl rfl (by decide) rfl rfl) (pma_cons (pm_callJ0 ["value"] rfl G_is_name (hr.mono (by decide)) rfl T.g_is_name F_is_name.kp (cb_is_name_0_value F_is_name) tk (pmk_cons (pm_name 7 rfl (.inr (.inl rfl))) pmk_nil) rfl rfl (by decide) rfl) pma_nil rfl) rfl) rfl) rfl)) (pma_cons (pm_lst (pma_cons (pm_name 8 rfl (.inl rfl)) (pma_cons (pm_name 8 rfl (.inl rfl)) (pma_cons (pm_name 9 rfl (.inl rfl)) (pma_cons (pm_name 9 rfl (.inl rfl)) pma_nil rfl) rfl) rfl) rfl)) pma_nil rfl) rfl) pmk_nil rfl rfl (by decide) rfl rfl) (fun _ => rfl))) (pms_one (pms_ret pm_bl)) pms_nil))))) (fun _ => rfl))
    (pms_cons (pms_par (i := 10) (j := 11) rfl sc_law.nd rfl rfl (by decide) (by decide) (by decide) rfl rfl (pma_cons (pm_bin op_sub bSub (pm_callJ [] rfl G__law_draw (hr.mono (by decide)) rfl T.g__law_draw F__law_draw.kp (cb__law_draw_2 F__law_draw) tk (pma_cons (pm_name 1 rfl (.inr (.inl rfl))) (pma_cons pm_int pma_nil rfl) rfl) pmk_nil rfl rfl (by decide) rfl rfl) pm_int) (pma_cons (pm_callJ [] rfl G__law_draw (hr.mono (by decide)) rfl T.g__law_draw F__law_draw.kp (cb__law_draw_2 F__law_draw) tk (pma_cons (pm_name 1 rfl (.inr (.inl rfl))) (pma_cons pm_int pma_nil rfl) rfl) pmk_nil rfl rfl (by decide) rfl rfl) pma_nil rfl) rfl) rfl rfl)
    (pms_cons (pms_for pas rfl (pmi_rng2 rfl T.f_range (pma_cons (pm_bin op_sub bSub (pm_name 10 rfl (.inl rfl)) pm_int) (pma_cons (pm_bin opAdd bAdd (pm_bin opAdd bAdd (pm_name 10 rfl (.inl rfl)) (pm_name 11 rfl (.inl rfl))) pm_int) pma_nil rfl) rfl) rfl rfl) (pg_name (i := 12) sc_law.nd rfl (.inl rfl) (.inl rfl)) (tg_nm 12) (fun _ h => by cases h) (pms_cons (pms_set (own := false) (pm_chain op_le op_le bLe bLe (pm_name 10 rfl (.inl rfl)) (pm_name 12 rfl (.inl rfl)) (pm_bin opAdd bAdd (pm_name 10 rfl (.inl rfl)) (pm_name 11 rfl (.inl rfl))) (by with_unfolding_all rfl)) (by decide) sc_law.nd rfl (.inl rfl) (.inl rfl) rfl rfl)
    (pms_one (pms_if (pm_not (pm_test rfl (pm_callJ [] rfl G__law_same (hr.mono (by decide)) rfl T.g__law_same F__law_same.kp (cb__law_same_2 F__law_same) tk (pma_cons (pm_lst (pma_cons (pm_callJ ["least", "most"] rfl G_is_number (hr.mono (by decide)) rfl T.g_is_number F_is_number.kp (cb_is_number_1_least_most F_is_number) tk (pma_cons (pm_name 12 rfl (.inl rfl)) pma_nil rfl) (pmk_cons (pm_name 10 rfl (.inl rfl)) (pmk_cons (pm_bin opAdd bAdd (pm_name 10 rfl (.inl rfl)) (pm_name 11 rfl (.inl rfl))) pmk_nil)) rfl rfl (by decide) rfl rfl) (pma_cons (pm_callJ0 ["most", "value"] rfl G_is_number (hr.mono (by decide)) rfl T.g_is_number F_is_number.kp (cb_is_number_0_most_value F_is_number) tk (pmk_cons (pm_name 12 rfl (.inl rfl)) (pmk_cons (pm_name 10 rfl (.inl rfl)) pmk_nil)) rfl rfl (by decide) rfl) (pma_cons (pm_callJ ["least"] rfl G_is_number (hr.mono (by decide)) rfl T.g_is_number F_is_number.kp (cb_is_number_1_least F_is_number) tk (pma_cons (pm_name 12 rfl (.inl rfl)) pma_nil rfl) (pmk_cons (pm_name 10 rfl (.inl rfl)) pmk_nil) rfl rfl (by decide) rfl rfl) pma_nil rfl) rfl) rfl)) (pma_cons (pm_lst (pma_cons (pm_name 13 rfl (.inl rfl)) (pma_cons (pm_cmp op_le bLe (pm_name 10 rfl (.inl rfl)) (pm_name 12 rfl (.inl rfl)) (nomark _)) (pma_cons (pm_cmp op_le bLe (pm_name 10 rfl (.inl rfl)) (pm_name 12 rfl (.inl rfl)) (nomark _)) pma_nil rfl) rfl) rfl)) pma_nil rfl) rfl) pmk_nil rfl rfl (by decide) rfl rfl) (fun _ => rfl))) (pms_one (pms_ret pm_bl)) pms_nil))) (fun _ => rfl))
    (pms_cons (pms_set (own := false) (pm_callJ [] rfl G__law_of (hr.mono (by decide)) rfl T.g__law_of F__law_of.kp (cb__law_of_2 F__law_of) tk (pma_cons (pm_name 1 rfl (.inr (.inl rfl))) (pma_cons (pm_lst (pma_cons pm_non (pma_cons pm_bl (pma_cons pm_bl (pma_cons pm_str (pma_cons (pm_tup (pma_cons pm_int pma_nil rfl)) (pma_cons (pm_lst (pma_cons pm_int pma_nil rfl)) pma_nil rfl) rfl) rfl) rfl) rfl) rfl)) pma_nil rfl) rfl) pmk_nil rfl rfl (by decide) rfl rfl) (by decide) sc_law.nd rfl (.inl rfl) (.inl rfl) rfl rfl)
    (pms_one (pms_if (PW.pt (pmw_or (pmt_cmp opIsNot bIsNot (pm_callJ [] rfl G_is_number (hr.mono (by decide)) rfl T.g_is_number F_is_number.kp (cb_is_number_1 F_is_number) tk (pma_cons (pm_name 14 rfl (.inl rfl)) pma_nil rfl) pmk_nil rfl rfl (by decide) rfl rfl) pm_bl (nomark _)) (pmw_or1 (pmt_cmp opIsNot bIsNot (pm_callJ ["least"] rfl G_is_number (hr.mono (by decide)) rfl T.g_is_number F_is_number.kp (cb_is_number_1_least F_is_number) tk (pma_cons (pm_name 14 rfl (.inl rfl)) pma_nil rfl) (pmk_cons pm_int pmk_nil) rfl rfl (by decide) rfl rfl) pm_bl (nomark _))))) (pms_one (pms_ret pm_bl)) pms_nil)))))))))) (fun _ => rfl))
    (pms_cons (pms_set (own := false) (pm_lst (pma_cons (pm_callJ [] rfl G_is_number (hr.mono (by decide)) rfl T.g_is_number F_is_number.kp (cb_is_number_1 F_is_number) tk (pma_cons (pm_bin op_pow bPow pm_int pm_int) pma_nil rfl) pmk_nil rfl rfl (by decide) rfl rfl) (pma_cons (pm_callJ [] rfl G_is_number (hr.mono (by decide)) rfl T.g_is_number F_is_number.kp (cb_is_number_1 F_is_number) tk (pma_cons (pm_bin opAdd bAdd (pm_bin op_pow bPow pm_int pm_int) pm_int) pma_nil rfl) pmk_nil rfl rfl (by decide) rfl rfl) (pma_cons (pm_callJ [] rfl G_is_number (hr.mono (by decide)) rfl T.g_is_number F_is_number.kp (cb_is_number_1 F_is_number) tk (pma_cons (pm_neg (pm_bin op_pow bPow pm_int pm_int)) pma_nil rfl) pmk_nil rfl rfl (by decide) rfl rfl) (pma_cons (pm_callJ [] rfl G_is_number (hr.mono (by decide)) rfl T.g_is_number F_is_number.kp (cb_is_number_1 F_is_number) tk (pma_cons (pm_bin op_sub bSub (pm_neg (pm_bin op_pow bPow pm_int pm_int)) pm_int) pma_nil rfl) pmk_nil rfl rfl (by decide) rfl rfl) pma_nil rfl) rfl) rfl) rfl)) (by decide) sc_law.nd rfl (.inl rfl) (.inl rfl) rfl rfl)
    (pms_cons (pms_if (pm_not (pm_test rfl (pm_callJ [] rfl G__law_same (hr.mono (by decide)) rfl T.g__law_same F__law_same.kp (cb__law_same_2 F__law_same) tk (pma_cons (pm_name 15 rfl (.inl rfl)) (pma_cons (pm_lst (pma_cons pm_bl (pma_cons pm_bl (pma_cons pm_bl (pma_cons pm_bl pma_nil rfl) rfl) rfl) rfl)) pma_nil rfl) rfl) pmk_nil rfl rfl (by decide) rfl rfl) (fun _ => rfl))) (pms_one (pms_ret pm_bl)) pms_nil)
    (pms_one (pms_ret (pm_callJ [] rfl G__law_same (hr.mono (by decide)) rfl T.g__law_same F__law_same.kp (cb__law_same_2 F__law_same) tk (pma_cons (pm_lst (pma_cons (pm_gI T.k_BIG rfl (by decide)) (pma_cons (pm_gO T.k_KINDS.1 T.k_KINDS.2 rfl (by decide)) (pma_cons (pm_gS T.k_ENDLESS rfl (by decide)) (pma_cons (pm_gS T.k_NEVER rfl (by decide)) (pma_cons (pm_gS T.k_CALM rfl (by decide)) pma_nil rfl) rfl) rfl) rfl) rfl)) (pma_cons (pm_lst (pma_cons (pm_bin op_pow bPow pm_int pm_int) (pma_cons (pm_tup (pma_cons pm_str (pma_cons pm_str pma_nil rfl) rfl)) (pma_cons pm_str (pma_cons pm_str (pma_cons pm_str pma_nil rfl) rfl) rfl) rfl) rfl)) pma_nil rfl) rfl) pmk_nil rfl rfl (by decide) rfl rfl)))))))
theorem all_ok {P : Program} {wd : World} {K : PySem.W.Frag} {h : Heap} {mg : Str → Option Value} (X : K.In h) (G : h.Ns mainGlobals mg) (c : SaysX chk fnl K) (base : Heap) : Ok_law P wd K mg base := by
  have T := tx_of X G c.chk
  have K_is_number : Ok_is_number P wd K mg base := ok_is_number T (c.fn 0 (d := dd_is_number) rfl)
  have K_only_of : Ok_only_of P wd K mg base := ok_only_of T (c.fn 1 (d := dd_only_of) rfl)
  have K_is_symbols : Ok_is_symbols P wd K mg base := ok_is_symbols T K_only_of (c.fn 2 (d := dd_is_symbols) rfl)
  have K_is_name : Ok_is_name P wd K mg base := ok_is_name T K_only_of (c.fn 3 (d := dd_is_name) rfl)
  have K__law_open : Ok__law_open P wd K mg base := ok__law_open T (c.fn 4 (d := dd__law_open) rfl)
  have K__law_draw : Ok__law_draw P wd K mg base := ok__law_draw T (c.fn 5 (d := dd__law_draw) rfl)
  have K__law_of : Ok__law_of P wd K mg base := ok__law_of T K__law_draw (c.fn 6 (d := dd__law_of) rfl)
  have K__law_same : ∀ n, Ok__law_same n P wd K mg base := ok__law_same T (c.fn 7 (d := dd__law_same) rfl)
  have K__law_none : Ok__law_none P wd K mg base := ok__law_none T K__law_of (c.fn 8 (d := dd__law_none) rfl)
  have K__law_only : Ok__law_only P wd K mg base := ok__law_only T (c.fn 9 (d := dd__law_only) rfl)
  have K_law : Ok_law P wd K mg base := ok_law T K__law_open K__law_draw K__law_of K__law_none K__law_only (K__law_same 6) K_is_symbols K_is_name K_is_number (c.fn 10 (d := dd_law) rfl)
  exact K_law
def nms : List Str := (["BIG", "KINDS", "ENDLESS", "NEVER", "CALM", "LETTERS", "SIGNS", "is_number", "only_of", "is_symbols", "is_name", "_law_open", "_law_draw", "_law_of", "_law_same", "_law_none", "_law_only"] : List Str)
abbrev R : PySem.W.OpenRow := PySem.W.OpenLaw.row PySem.Challenge.rw_rightfrom_k02_numbers_names_and_symbols
abbrev hk : PySem.W.Hook := hookX 4 chk fnl
def ob (s : PySem.W.SharedT) : He.AlD := obsXG 4 chk fnl (HandSHeadRun.getT s)
theorem ob_eq (s : PySem.W.SharedT) : ob s = hk.obs s.abs := obsXG_eq (HandSHeadRun.getT_eq s)
end Lk02

namespace DV
open PySem PySem.Spec PyProof.Rows L2
local macro_rules
  | `(tactic| simp_arith [$ts,*]) => `(tactic| simp only [ap_def, env0, List.map_cons, List.map_nil, List.length_cons, List.length_nil, List.replicate, Nat.reduceAdd, Nat.reduceSub, List.cons_append, List.nil_append,
    ap_seq, ap_put, ap_D, ap_bin, ap_name, List.getElem?_cons_zero, List.getElem?_cons_succ, nameR_val, nameR_lst, Res.bind_ok, ap_bin1, ap_C, ap_bin2, cont_ob0, cont_int, cont_bl, cont_str, cont_non, cont_ty, cont_lst, cont_kl, cont_tup, cont_kt, cont_fr, cont_env, rd_lst, obind_some,
    two_ok, ev_get_lst, ev_get_tup, atI_nn, Int.reduceLE, Int.reduceToNat, omap_some, lift_some, addt_ok, Bool.or_false, Bool.or_self, ev_add_int, ev_sub_int, toD_d, toD_fr, frz_lst, ap_put1, ap_put2, ap_put3, getP_ob0, putR_at, Int.reduceLT, List.set_cons_succ, List.set_cons_zero,
    seqR_nx, ap_ifS, ap_andB, ap_orB, ap_notB, ap_notR, ap_tst, ev_eq_int, ev_ne_int, tstR_ok, ap_andB1, ap_orB1, decide_false, decide_true, Bool.not_true, Bool.not_false, pickM_f, pickM_t, ap_okB, ap_ifS1, ap_nx, ev_gt_int, ev_ge_int, ev_lt_int, ev_le_int,
    ap_set, ap_set1, setR_ok, ap_blt, ap_consR, ap_nilR, ap_consD, ap_nilD, ap_cons1, ap_consT, ap_blt1, conts_cons, conts_nil, cons2_some, one_ok, ev_gint_int, ev_gabs_int, ev_len_lst, ev_mod_int, ev_fdiv_int, ap_ret, ap_ret1, outR_d, outR_fr, ap_rtR, seqR_rt, endM_rt, endM_nx, Nat.reduceLT,
    ap_call, ap_call1, at_ok, ap_tup, ap_lst, ap_tru, ap_tru1, truR_ok, truD_bl, ap_neg, ap_neg1, negR_ok, ap_for, forR_ok, ap_its, itsR_str, itsR_lst, itsR_kl, itsR_tup, ap_rng1, ap_rng2, ap_part, part1_int, ap_noP, ap_sl, ap_sl1, ap_sl2, sl3_ok (cont_kl _ _ _), sl3_ok (cont_str _ _ _), sl3_ok (cont_lst _ _ _), cut_kl, cut_lst, ap_and, ap_and1, ap_or, ap_or1, truK_t, truK_f, ap_okR, ap_not, ap_not1, notV_ok, ap_sto, setSto_ok', ap_lc, lst1_ok, tup1_ok, isi_non_int, isi_non_bool, isi_non_str, isi_non_list, isi_non_tuple, isi_non_seq, isi_bl_int, isi_bl_bool, isi_bl_str, isi_bl_list, isi_bl_tuple, isi_bl_seq, isi_int_int, isi_int_bool, isi_int_str, isi_int_list, isi_int_tuple, isi_int_seq, isi_str_int, isi_str_bool, isi_str_str, isi_str_list, isi_str_tuple, isi_str_seq, isi_lst_int, isi_lst_bool, isi_lst_str, isi_lst_list, isi_lst_tuple, isi_lst_seq, isi_kl_int, isi_kl_bool, isi_kl_str, isi_kl_list, isi_kl_tuple, isi_kl_seq, isi_tup_int, isi_tup_bool, isi_tup_str, isi_tup_list, isi_tup_tuple, isi_tup_seq, isi_kt_int, isi_kt_bool, isi_kt_str, isi_kt_list, isi_kt_tuple, isi_kt_seq, callR_ok, pick_cons, pick_nil, consO_some, List.append_nil, ap_mt, mt1_str, ap_mt2, mt3_ok, Bool.or_true, Bool.true_or, isF_non, isX_non, isF_bl, isX_bl, isF_int, isX_int, isF_str, isX_str, isF_lst, isX_lst, isF_tup, isX_tup, isF_kt, isX_kt, isF_kl, isX_kl, ev_ne_bl, ev_eq_bl, ev_eq_str, beq_self_eq_true, bne_self_eq_false, ev_len_tup, ev_len_kt, le_line, Nat.reduceLeDiff, $ts,*])
theorem ev_in_sign (c : Nat) (s : Str) : oIn false (.str ⟨#[c]⟩) (.str s) = some (.d (.bl (decide (c ∈ s.cps.toList)))) := by
  have e : oInS false (.str ⟨#[c]⟩) (.str s) = some (.d (.bl (decide (c ∈ s.cps.toList)))) := by
    rw [← PySem.StrLaws.found_one]
    simp [oInS]
  show (oInL false (.str ⟨#[c]⟩) (.str s)).or ((oInS false (.str ⟨#[c]⟩) (.str s)).or _) = _
  rw [e]
  rfl
theorem ev_notin_sign (c : Nat) (s : Str) : oIn true (.str ⟨#[c]⟩) (.str s) = some (.d (.bl (!decide (c ∈ s.cps.toList)))) := by
  have e : oInS true (.str ⟨#[c]⟩) (.str s) = some (.d (.bl (!decide (c ∈ s.cps.toList)))) := by
    rw [← PySem.StrLaws.found_one]
    simp [oInS]
  show (oInL true (.str ⟨#[c]⟩) (.str s)).or ((oInS true (.str ⟨#[c]⟩) (.str s)).or _) = _
  rw [e]
  rfl
def chR (g' : D → D → Option Rv) (cc : M Rv) (rb : Rv) (o : Option Rv) : M Rv := fun ρ S => match o with
  | some (.d (.bl true)) => (cc ρ S).bind (bin2 g' rb)
  | some (.d (.bl false)) => .ok (.d (.bl false)) ρ S false
  | _ => .bad
def g2 (g : D → D → Option Rv) (a b : Option D) : Option Rv := match a, b with
  | some x, some y => g x y
  | _, _ => none
def ch2 (g g' : D → D → Option Rv) (cc : M Rv) (ra rb : Rv) : M Rv := fun ρ S => chR g' cc rb (g2 g (cont ρ S ra) (cont ρ S rb)) ρ S
def ch1 (g g' : D → D → Option Rv) (cb cc : M Rv) (ra : Rv) : M Rv := fun ρ S => (cb ρ S).bind (ch2 g g' cc ra)
theorem ap_chain (g g' : D → D → Option Rv) (ca cb cc : M Rv) (ρ S : List Sl) : cChain g g' ca cb cc ρ S = (ca ρ S).bind (ch1 g g' cb cc) := by
  unfold cChain
  congr 1
  funext ra ρ S
  unfold ch1
  congr 1
  funext rb ρ S
  unfold ch2 g2 chR
  cases cont ρ S ra with
  | none => rfl
  | some x =>
    cases cont ρ S rb with
    | none => rfl
    | some y =>
      simp only
      cases g x y with
      | none => rfl
      | some r =>
        cases r with
        | d d0 =>
          cases d0 with
          | bl k => cases k <;> rfl
          | _ => rfl
        | _ => rfl
theorem ap_ch1 (g g' : D → D → Option Rv) (cb cc : M Rv) (ra : Rv) (ρ S : List Sl) : ch1 g g' cb cc ra ρ S = (cb ρ S).bind (ch2 g g' cc ra) := rfl
theorem ap_ch2 (g g' : D → D → Option Rv) (cc : M Rv) (ra rb : Rv) (ρ S : List Sl) : ch2 g g' cc ra rb ρ S = chR g' cc rb (g2 g (cont ρ S ra) (cont ρ S rb)) ρ S := rfl
theorem g2_some (g : D → D → Option Rv) (x y : D) : g2 g (some x) (some y) = g x y := rfl
theorem chR_t (g' : D → D → Option Rv) (cc : M Rv) (rb : Rv) (ρ S : List Sl) : chR g' cc rb (some (.d (.bl true))) ρ S = (cc ρ S).bind (bin2 g' rb) := rfl
theorem chR_f (g' : D → D → Option Rv) (cc : M Rv) (rb : Rv) (ρ S : List Sl) : chR g' cc rb (some (.d (.bl false))) ρ S = .ok (.d (.bl false)) ρ S false := rfl
def lensR (o : Option (List D)) (ρ S : List Sl) : Res Rv := match o with
  | some xs => (match keysD xs with
    | some ks => if ks.length + 1 < scanBound then .ok (.d (.int (metK ks ks.length).length)) ρ S false else .bad
    | none => .bad)
  | none => .bad
def lens1 (r : Rv) : M Rv := fun ρ S => lensR ((cont ρ S r).bind D.itemsL) ρ S
theorem ap_lens (c : M Rv) (ρ S : List Sl) : cLenSet c ρ S = (c ρ S).bind lens1 := rfl
theorem ap_lens1 (r : Rv) (ρ S : List Sl) : lens1 r ρ S = lensR ((cont ρ S r).bind D.itemsL) ρ S := rfl
theorem itemsL_lst (xs : List D) : D.itemsL (.lst xs) = some xs := rfl
theorem lensR_ok {xs : List D} {ks : List Key} {ρ S : List Sl} (h : keysD xs = some ks) (hl : ks.length + 1 < scanBound) : lensR (some xs) ρ S = .ok (.d (.int (metK ks ks.length).length)) ρ S false := by
  unfold lensR
  simp only [h]
  rw [if_pos hl]
abbrev keysZ (z : Str) : List Key := z.cps.toList.map fun c => .inr ⟨#[c]⟩
theorem keysD_signs (z : Str) : keysD (signsD z) = some (keysZ z) := by
  unfold signsD keysZ
  induction z.cps.toList with
  | nil => rfl
  | cons c r ih =>
    rw [List.map_cons, List.map_cons, keysD, ih]
    rfl
theorem ev_glist_str {z : Str} (h : z.length ≤ sizeLine) : gList [.str z] = some (.fr (.lst (signsD z))) := by
  show (none : Option Rv).or (if z.length ≤ sizeLine then some (.fr (.lst (signsD z))) else none) = _
  rw [if_pos h]
  rfl
theorem shaped_flat {ps : List PyData} (h : ∀ p ∈ ps, p.canLay0 = true ∧ p.depth = 0) : SeqAt.shaped (.list ps) = true := by
  have e : PyData.canLayAll0 ps = true ∧ PyData.depthAll ps = 0 := by
    induction ps with
    | nil => exact ⟨rfl, rfl⟩
    | cons x r ih =>
      obtain ⟨a, b⟩ := ih fun p hp => h p (by simp [hp])
      obtain ⟨c, d⟩ := h x (by simp)
      exact ⟨by rw [PyData.canLayAll0, c, a]; rfl, by rw [PyData.depthAll, d, b]; rfl⟩
  unfold SeqAt.shaped
  rw [PyData.canLay0, PyData.depth, e.1, e.2]
  rfl
theorem datL_map {α : Type} (f : α → D) (g : α → PyData) (h : ∀ a, dat (f a) = some (g a)) : ∀ xs : List α, datL (xs.map f) = some (xs.map g)
  | [] => by rw [List.map_nil, List.map_nil, datL]
  | x :: xs => by rw [List.map_cons, List.map_cons, datL, h, datL_map f g h xs]
theorem eq_nil {α : Type} (f : α → D) (g : α → PyData) (h : ∀ a, dat (f a) = some (g a)) (xs : List α) (hs : ∀ a ∈ xs, (g a).canLay0 = true ∧ (g a).depth = 0) : oEq false (.lst (xs.map f)) (.lst []) = some (.d (.bl xs.isEmpty)) := by
  have e1 : dat (.lst (xs.map f)) = some (.list (xs.map g)) := by rw [dat, datL_map f g h xs]; rfl
  have e2 : dat (.lst []) = some (.list []) := by rw [dat, datL]; rfl
  have s1 : SeqAt.shaped (.list (xs.map g)) = true := shaped_flat fun p hp => by
    obtain ⟨a, ha, rfl⟩ := List.mem_map.mp hp
    exact hs a ha
  have s2 : SeqAt.shaped (.list []) = true := shaped_flat fun p hp => by cases hp
  show (oEqS false (.lst (xs.map f)) (.lst [])).or (oEqD false (.lst (xs.map f)) (.lst [])) = _
  have e3 : oEqD false (.lst (xs.map f)) (.lst []) = some (.d (.bl xs.isEmpty)) := by
    unfold oEqD
    simp only [e1, e2]
    rw [if_pos ⟨s1, s2⟩]
    cases xs with
    | nil => rfl
    | cons x r => simp [PyData.eqv, PyData.eqvAll]
  rw [e3]
  rfl
theorem dat_str1 (c : Nat) : dat (.str ⟨#[c]⟩) = some (.str ⟨#[c]⟩) := by rw [dat]
theorem dat_int1 (c : Int) : dat (.int c) = some (.int c) := by rw [dat]
abbrev OkZ (z : Str) : Prop := ∀ c ∈ z.cps.toList, (PyData.str ⟨#[c]⟩).canLay0 = true
theorem ev_add_lst {xs ys : List D} (h : xs.length + ys.length ≤ sizeLine) : oAdd (.lst xs) (.lst ys) = some (.fr (.lst (xs ++ ys))) := by
  show (none : Option Rv).or ((none : Option Rv).or ((if xs.length + ys.length ≤ sizeLine then some (Rv.fr (.lst (xs ++ ys))) else none : Option Rv).or none)) = _
  rw [if_pos h]
  rfl
/-! ### how many different ones -/
theorem inK_iff (l : List Key) (k : Key) : inK l k = true ↔ k ∈ l := by
  unfold inK
  rw [List.any_eq_true]
  exact ⟨fun ⟨y, h1, h2⟩ => of_decide_eq_true h2 ▸ h1, fun h => ⟨k, h, decide_eq_true rfl⟩⟩
theorem metK_mem (ks : List Key) : ∀ i, i ≤ ks.length → ∀ k, k ∈ metK ks i ↔ k ∈ ks.take i
  | 0, _, k => by simp [metK]
  | i + 1, h, k => by
    obtain ⟨x, e⟩ : ∃ x, ks[i]? = some x := ⟨ks[i], by simp [show i < ks.length from h]⟩
    rw [metK_next e, List.take_add_one, e]
    have ih := metK_mem ks i (Nat.le_of_lt h)
    unfold stepK
    split
    · rename_i hx
      have hx := (ih x).mp ((inK_iff _ _).mp hx)
      rw [ih k]
      simp only [List.mem_append, Option.toList_some, List.mem_singleton]
      exact ⟨.inl, fun z => z.elim id fun z => z ▸ hx⟩
    · simp only [List.mem_append, Option.toList_some, List.mem_singleton, ih k]
/-- as many as there are: none comes again -/
theorem metK_all (ks : List Key) : ∀ i, i ≤ ks.length → ((metK ks i).length = i ↔ ∀ j k, j < i → ks[j]? = some k → k ∉ ks.take j)
  | 0, _ => ⟨fun _ j k h => absurd h (by omega), fun _ => by simp [metK]⟩
  | i + 1, h => by
    obtain ⟨x, e⟩ : ∃ x, ks[i]? = some x := ⟨ks[i], by simp [show i < ks.length from h]⟩
    have ih := metK_all ks i (Nat.le_of_lt h)
    have le := metK_len ks i (Nat.le_of_lt h)
    have mem := metK_mem ks i (Nat.le_of_lt h) x
    rw [metK_next e, ← stepK_count]
    constructor
    · intro hl j k hj ek
      have nx : ¬ inK (metK ks i) x = true := fun z => by rw [if_pos z] at hl; omega
      rw [if_neg nx] at hl
      by_cases ej : j = i
      · subst ej
        rw [e] at ek
        cases ek
        exact fun z => nx ((inK_iff _ _).mpr (mem.mpr z))
      · exact ih.mp (by omega) j k (by omega) ek
    · intro hj
      have nx : ¬ inK (metK ks i) x = true := fun z => hj i x (by omega) e (mem.mp ((inK_iff _ _).mp z))
      rw [if_neg nx, ih.mpr fun j k h2 => hj j k (by omega)]
end DV
namespace Lk02
open PySem PySem.Spec PyProof.Rows L2 DV
local macro_rules
  | `(tactic| simp_arith [$ts,*]) => `(tactic| simp only [ap_def, env0, List.map_cons, List.map_nil, List.length_cons, List.length_nil, List.replicate, Nat.reduceAdd, Nat.reduceSub, List.cons_append, List.nil_append,
    ap_seq, ap_put, ap_D, ap_bin, ap_name, List.getElem?_cons_zero, List.getElem?_cons_succ, nameR_val, nameR_lst, Res.bind_ok, ap_bin1, ap_C, ap_bin2, cont_ob0, cont_int, cont_bl, cont_str, cont_non, cont_ty, cont_lst, cont_kl, cont_tup, cont_kt, cont_fr, cont_env, rd_lst, obind_some,
    two_ok, ev_get_lst, ev_get_tup, atI_nn, Int.reduceLE, Int.reduceToNat, omap_some, lift_some, addt_ok, Bool.or_false, Bool.or_self, ev_add_int, ev_sub_int, toD_d, toD_fr, frz_lst, ap_put1, ap_put2, ap_put3, getP_ob0, putR_at, Int.reduceLT, List.set_cons_succ, List.set_cons_zero,
    seqR_nx, ap_ifS, ap_andB, ap_orB, ap_notB, ap_notR, ap_tst, ev_eq_int, ev_ne_int, tstR_ok, ap_andB1, ap_orB1, decide_false, decide_true, Bool.not_true, Bool.not_false, pickM_f, pickM_t, ap_okB, ap_ifS1, ap_nx, ev_gt_int, ev_ge_int, ev_lt_int, ev_le_int,
    ap_set, ap_set1, setR_ok, ap_blt, ap_consR, ap_nilR, ap_consD, ap_nilD, ap_cons1, ap_consT, ap_blt1, conts_cons, conts_nil, cons2_some, one_ok, ev_gint_int, ev_gabs_int, ev_len_lst, ev_mod_int, ev_fdiv_int, ap_ret, ap_ret1, outR_d, outR_fr, ap_rtR, seqR_rt, endM_rt, endM_nx, Nat.reduceLT,
    ap_call, ap_call1, at_ok, ap_tup, ap_lst, ap_tru, ap_tru1, truR_ok, truD_bl, ap_neg, ap_neg1, negR_ok, ap_for, forR_ok, ap_its, itsR_str, itsR_lst, itsR_kl, itsR_tup, ap_rng1, ap_rng2, ap_part, part1_int, ap_noP, ap_sl, ap_sl1, ap_sl2, sl3_ok (cont_kl _ _ _), sl3_ok (cont_str _ _ _), sl3_ok (cont_lst _ _ _), cut_kl, cut_lst, ap_and, ap_and1, ap_or, ap_or1, truK_t, truK_f, ap_okR, ap_not, ap_not1, notV_ok, ap_sto, setSto_ok', ap_lc, lst1_ok, tup1_ok, isi_non_int, isi_non_bool, isi_non_str, isi_non_list, isi_non_tuple, isi_non_seq, isi_bl_int, isi_bl_bool, isi_bl_str, isi_bl_list, isi_bl_tuple, isi_bl_seq, isi_int_int, isi_int_bool, isi_int_str, isi_int_list, isi_int_tuple, isi_int_seq, isi_str_int, isi_str_bool, isi_str_str, isi_str_list, isi_str_tuple, isi_str_seq, isi_lst_int, isi_lst_bool, isi_lst_str, isi_lst_list, isi_lst_tuple, isi_lst_seq, isi_kl_int, isi_kl_bool, isi_kl_str, isi_kl_list, isi_kl_tuple, isi_kl_seq, isi_tup_int, isi_tup_bool, isi_tup_str, isi_tup_list, isi_tup_tuple, isi_tup_seq, isi_kt_int, isi_kt_bool, isi_kt_str, isi_kt_list, isi_kt_tuple, isi_kt_seq, callR_ok, pick_cons, pick_nil, consO_some, List.append_nil, ap_mt, mt1_str, ap_mt2, mt3_ok, Bool.or_true, Bool.true_or, isF_non, isX_non, isF_bl, isX_bl, isF_int, isX_int, isF_str, isX_str, isF_lst, isX_lst, isF_tup, isX_tup, isF_kt, isX_kt, isF_kl, isX_kl, ev_ne_bl, ev_eq_bl, ev_eq_str, beq_self_eq_true, bne_self_eq_false, ev_len_tup, ev_len_kt, le_line, Nat.reduceLeDiff, $ts,*])
def allIn (z s : Str) : Bool := (signsD z).all fun d => match d with
  | .str ⟨⟨[c]⟩⟩ => decide (c ∈ s.cps.toList)
  | _ => false
theorem only_str (z s : Str) (S : List Sl) : m_only_of [.str z, .str s] S = .ok (.d (.bl (allIn z s))) [] S false := by
  obtain ⟨ρ', S', ⟨x, e1, e2⟩, e3⟩ := forM_until (g := .nm 2) (b := cIfS (cTst (cBin (oIn true) (cName 2) (cName 1))) (cRet (cC (.bl false))) cNx) (fun ρ S' => ∃ x, ρ = [.val (.str z), .val (.str s), x] ∧ S' = S) (.d (.bl false))
    (fun d => match d with | .str ⟨⟨[c]⟩⟩ => decide (c ∈ s.cps.toList) | _ => false) (signsD z) [.val (.str z), .val (.str s), .emp] S (by
      rintro d hd ρ S1 ⟨x, rfl, rfl⟩
      obtain ⟨c, hc, rfl⟩ := List.mem_map.mp hd
      refine ⟨_, bindT_nm (by simp), fun h => ?_, fun h => ?_⟩
      · have h : decide (c ∈ s.cps.toList) = true := h
        exact ⟨[.val (.str z), .val (.str s), .val (.str ⟨#[c]⟩)], S1, false, by simp_arith [ev_notin_sign, h], _, rfl, rfl⟩
      · have h : decide (c ∈ s.cps.toList) = false := h
        exact ⟨[.val (.str z), .val (.str s), .val (.str ⟨#[c]⟩)], S1, false, by simp_arith [ev_notin_sign, h], _, rfl, rfl⟩) ⟨.emp, rfl, rfl⟩
  subst e1 e2
  unfold allIn
  cases h : (signsD z).all fun d => match d with | .str ⟨⟨[c]⟩⟩ => decide (c ∈ s.cps.toList) | _ => false with
  | true =>
    rw [h, if_pos rfl] at e3
    simp_arith [m_only_of, c_only_of, e3]
  | false =>
    rw [h, if_neg Bool.false_ne_true] at e3
    simp_arith [m_only_of, c_only_of, e3]
theorem only_no {d : D} (s : Str) (S : List Sl) (h : gIsi owT [d, .ty "str"] = some (.d (.bl false))) (hc : ∀ ρ S, cont ρ S (.d d) = some d) : m_only_of [d, .str s] S = .ok (.d (.bl false)) [] S false := by
  simp_arith [m_only_of, c_only_of, h, hc]

abbrev SG : Str := "abcdefghijklmnopqrstuvwxyz0123456789"
abbrev LT : Str := "abcdefghijklmnopqrstuvwxyz"
def lenIn (z : Str) (k : Int) : Bool := decide ((1 : Int) ≤ (z.length : Int)) && decide ((z.length : Int) ≤ k)
def dist (z : Str) : Bool := decide (((metK (keysZ z) (keysZ z).length).length : Int) = (z.length : Int))
theorem chain_len {z : Str} (hz : z.length ≤ 1000) (k : Int) (ρ S : List Sl) (i : Nat) (hi : ρ[i]? = some (.val (.str z))) : cChain oLe oLe (cC (.int 1)) (cBlt gLen (cConsR (cName i) cNilR)) (cC (.int k)) ρ S = .ok (.d (.bl (lenIn z k))) ρ S false := by
  have hz' := le_line hz
  unfold lenIn
  by_cases h : (1 : Int) ≤ (z.length : Int)
  · simp_arith [ap_chain, ap_ch1, ap_ch2, hi, ev_len_str hz', g2_some, h, chR_t, Bool.true_and]
  · simp_arith [ap_chain, ap_ch1, ap_ch2, hi, ev_len_str hz', g2_some, h, chR_f, Bool.false_and]
theorem isym_str {z : Str} (hz : z.length ≤ 1000) (S : List Sl) : m_is_symbols [.str z] S = .ok (.d (.bl (allIn z SG && (lenIn z 5 && dist z)))) [] S false := by
  have hz' := le_line hz
  have e1 := fun ρ S hi => chain_len hz 5 ρ S 0 hi
  have e2 := lensR_ok (ρ := [.val (.str z)]) (S := S) (keysD_signs z) (by rw [List.length_map, Array.length_toList]; show z.length + 1 < 4096; omega)
  cases h1 : allIn z SG with
  | false => simp_arith [m_is_symbols, c_is_symbols, only_str, h1, Bool.false_and]
  | true =>
    cases h2 : lenIn z 5 with
    | false => simp_arith [m_is_symbols, c_is_symbols, only_str, h1, Bool.false_and, Bool.true_and, e1 [.val (.str z)] S rfl, h2]
    | true => simp_arith [m_is_symbols, c_is_symbols, only_str, h1, Bool.false_and, Bool.true_and, e1 [.val (.str z)] S rfl, h2, ap_lens, ap_lens1, ev_glist_str hz', itemsL_lst, e2, ev_len_str hz', dist]
theorem iname_str {z : Str} (hz : z.length ≤ 1000) (S : List Sl) : m_is_name [.str z] S = .ok (.d (.bl (allIn z LT && lenIn z 6))) [] S false := by
  have e1 := fun ρ S hi => chain_len hz 6 ρ S 0 hi
  cases h1 : allIn z LT with
  | false => simp_arith [m_is_name, c_is_name, only_str, h1, Bool.false_and]
  | true => simp_arith [m_is_name, c_is_name, only_str, h1, Bool.true_and, e1 [.val (.str z)] S rfl]
theorem isym_no {d : D} (S : List Sl) (h : gIsi owT [d, .ty "str"] = some (.d (.bl false))) (hc : ∀ ρ S, cont ρ S (.d d) = some d) : m_is_symbols [d] S = .ok (.d (.bl false)) [] S false := by
  simp_arith [m_is_symbols, c_is_symbols, only_no _ _ h hc]
theorem iname_no {d : D} (S : List Sl) (h : gIsi owT [d, .ty "str"] = some (.d (.bl false))) (hc : ∀ ρ S, cont ρ S (.d d) = some d) : m_is_name [d] S = .ok (.d (.bl false)) [] S false := by
  simp_arith [m_is_name, c_is_name, only_no _ _ h hc]

theorem allIn_filter (z s : Str) : (z.cps.toList.filter fun c => !decide (c ∈ s.cps.toList)).isEmpty = allIn z s := by
  unfold allIn signsD
  induction z.cps.toList with
  | nil => rfl
  | cons c r ih =>
    rw [List.map_cons, List.all_cons, ← ih, List.filter_cons]
    show _ = (decide (c ∈ s.cps.toList) && _)
    cases decide (c ∈ s.cps.toList) <;> simp
theorem lonly_str {z s : Str} (hz : z.length ≤ 1000) (ok : OkZ z) (S : List Sl) : m__law_only [.str z, .str s] S = .ok (.d (.bl (allIn z s))) [] S false := by
  have e : compM [2] (.nm 2) (cTst (cBin (oIn true) (cName 2) (cName 1))) (cName 2) (signsD z) [] [.val (.str z), .val (.str s), .emp] S = .ok ([] ++ ((signsD z).filter fun d => match d with | .str ⟨⟨[c]⟩⟩ => !decide (c ∈ s.cps.toList) | _ => false).map id) [.val (.str z), .val (.str s), .emp] S false := by
    refine compM_pure (fun d => match d with | .str ⟨⟨[c]⟩⟩ => !decide (c ∈ s.cps.toList) | _ => false) id _ [] ?_ fun d hd => ?_
    · simp only [signsD, List.length_map, Array.length_toList, List.length_nil, Nat.zero_add]
      exact le_line hz
    · obtain ⟨c, hc, rfl⟩ := List.mem_map.mp hd
      exact ⟨[.val (.str z), .val (.str s), .val (.str ⟨#[c]⟩)], [.val (.str z), .val (.str s), .val (.str ⟨#[c]⟩)], false, rfl, by simp_arith [ev_notin_sign], rfl, fun _ => ⟨[.val (.str z), .val (.str s), .val (.str ⟨#[c]⟩)], false, by simp_arith [id], rfl⟩⟩
  have e2 : ((signsD z).filter fun d => match d with | .str ⟨⟨[c]⟩⟩ => !decide (c ∈ s.cps.toList) | _ => false).map id = (z.cps.toList.filter fun c => !decide (c ∈ s.cps.toList)).map fun c => .str ⟨#[c]⟩ := by
    unfold signsD
    rw [List.filter_map, List.map_id]
    rfl
  rw [List.nil_append, e2] at e
  have e3 : lcR [2] (.nm 2) (cTst (cBin (oIn true) (cName 2) (cName 1))) (cName 2) (.ok (signsD z) [.val (.str z), .val (.str s), .emp] S false) = _ := lcR_ok e
  have e4 := eq_nil (fun c : Nat => D.str ⟨#[c]⟩) (fun c => .str ⟨#[c]⟩) dat_str1 (z.cps.toList.filter fun c => !decide (c ∈ s.cps.toList)) (fun c hc => ⟨ok c (List.mem_filter.mp hc).1, by rw [PyData.depth]⟩)
  rw [allIn_filter] at e4
  simp_arith [m__law_only, c__law_only, e3, e4]
theorem inum_int (i l m : Int) (S : List Sl) : m_is_number [.int i, .int l, .int m] S = .ok (.d (.bl (decide (l ≤ i) && decide (i ≤ m)))) [] S false := by
  by_cases h : l ≤ i
  · simp_arith [m_is_number, c_is_number, ap_chain, ap_ch1, ap_ch2, g2_some, h, chR_t, Bool.true_and]
  · simp_arith [m_is_number, c_is_number, ap_chain, ap_ch1, ap_ch2, g2_some, h, chR_f, Bool.false_and]
theorem inum_bl (b : Bool) (l m : Int) (S : List Sl) : m_is_number [.bl b, .int l, .int m] S = .ok (.d (.bl false)) [] S false := by
  simp_arith [m_is_number, c_is_number]
theorem inum_no {d : D} (l m : Int) (S : List Sl) (h : gIsi owT [d, .ty "int"] = some (.d (.bl false))) (hc : ∀ ρ S, cont ρ S (.d d) = some d) : m_is_number [d, .int l, .int m] S = .ok (.d (.bl false)) [] S false := by
  simp_arith [m_is_number, c_is_number, h, hc]

def oddL : List D := [.non, .bl true, .str "A", .tup [], .lst [.lst []], .str "a b"]
theorem none_ok {b : Sl} (h : Bag b) {more : List D} (hm : more.length ≤ 100) (rest : List Sl) : ∃ d b', d ∈ oddL ++ more ∧ Bag b' ∧ m__law_none [.ob 0, .lst more] (b :: rest) = .ok (.d d) [] (b' :: rest) false := by
  obtain ⟨d, b', hd, hb, e⟩ := h.of_lst (ds := oddL ++ more) (by simp [oddL]) (by simp [oddL]; omega)
  refine ⟨d, b', hd, hb, ?_⟩
  have e' : m__law_of [.ob 0, .lst (oddL ++ more)] (b :: rest) = .ok (.d d) [] (b' :: rest) false := e rest
  unfold oddL at e'
  have ea := ev_add_lst (xs := oddL) (ys := more) (by simp only [oddL, List.length_cons, List.length_nil]; exact le_line (by omega))
  unfold oddL at ea
  simp only [List.cons_append, List.nil_append] at e'
  simp_arith [m__law_none, c__law_none, ea, e']
def lawD (z : Str) : Bool := ((List.range z.length).filter fun k => match z.cps.toList[k]? with | some c => decide (c ∈ z.cps.toList.take k) | none => false).isEmpty
theorem dist_law (z : Str) : dist z = lawD z := by
  have hl : (keysZ z).length = z.length := by simp [Str.length]
  have h := metK_all (keysZ z) (keysZ z).length (Nat.le_refl _)
  unfold dist lawD
  rw [Bool.eq_iff_iff, decide_eq_true_eq, List.isEmpty_iff, List.filter_eq_nil_iff]
  rw [hl] at h ⊢
  have inj : ∀ c l, (Sum.inr (⟨#[c]⟩ : Str) : Key) ∈ (l : List Nat).map (fun c => (Sum.inr (⟨#[c]⟩ : Str) : Key)) ↔ c ∈ l := fun c l => by
    rw [List.mem_map]
    exact ⟨fun ⟨a, ha, e⟩ => by cases e; exact ha, fun h => ⟨c, h, rfl⟩⟩
  constructor
  · intro e k hk
    have h2 := h.mp (by omega) k
    have hk := List.mem_range.mp hk
    cases q : z.cps.toList[k]? with
    | none => simp
    | some c =>
      have h3 := h2 (.inr ⟨#[c]⟩) hk (by simp [keysZ, q])
      unfold keysZ at h3
      rw [← List.map_take] at h3
      rw [inj] at h3
      simp [h3]
  · intro e
    have h2 := h.mpr fun j k hj ek => by
      have h3 := e j (List.mem_range.mpr hj)
      simp only [keysZ, List.getElem?_map, Option.map_eq_some_iff] at ek
      obtain ⟨c, ec, rfl⟩ := ek
      simp only [ec, decide_eq_true_eq] at h3
      unfold keysZ
      rw [← List.map_take, inj]
      exact h3
    omega
end Lk02

namespace Lk02
open PySem PySem.Spec PyProof.Rows L2 DV
local macro_rules
  | `(tactic| simp_arith [$ts,*]) => `(tactic| simp only [ap_def, env0, List.map_cons, List.map_nil, List.length_cons, List.length_nil, List.replicate, Nat.reduceAdd, Nat.reduceSub, List.cons_append, List.nil_append,
    ap_seq, ap_put, ap_D, ap_bin, ap_name, List.getElem?_cons_zero, List.getElem?_cons_succ, nameR_val, nameR_lst, Res.bind_ok, ap_bin1, ap_C, ap_bin2, cont_ob0, cont_int, cont_bl, cont_str, cont_non, cont_ty, cont_lst, cont_kl, cont_tup, cont_kt, cont_fr, cont_env, rd_lst, obind_some,
    two_ok, ev_get_lst, ev_get_tup, atI_nn, Int.reduceLE, Int.reduceToNat, omap_some, lift_some, addt_ok, Bool.or_false, Bool.or_self, ev_add_int, ev_sub_int, toD_d, toD_fr, frz_lst, ap_put1, ap_put2, ap_put3, getP_ob0, putR_at, Int.reduceLT, List.set_cons_succ, List.set_cons_zero,
    seqR_nx, ap_ifS, ap_andB, ap_orB, ap_notB, ap_notR, ap_tst, ev_eq_int, ev_ne_int, tstR_ok, ap_andB1, ap_orB1, decide_false, decide_true, Bool.not_true, Bool.not_false, pickM_f, pickM_t, ap_okB, ap_ifS1, ap_nx, ev_gt_int, ev_ge_int, ev_lt_int, ev_le_int,
    ap_set, ap_set1, setR_ok, ap_blt, ap_consR, ap_nilR, ap_consD, ap_nilD, ap_cons1, ap_consT, ap_blt1, conts_cons, conts_nil, cons2_some, one_ok, ev_gint_int, ev_gabs_int, ev_len_lst, ev_mod_int, ev_fdiv_int, ap_ret, ap_ret1, outR_d, outR_fr, ap_rtR, seqR_rt, endM_rt, endM_nx, Nat.reduceLT,
    ap_call, ap_call1, at_ok, ap_tup, ap_lst, ap_tru, ap_tru1, truR_ok, truD_bl, ap_neg, ap_neg1, negR_ok, ap_for, forR_ok, ap_its, itsR_str, itsR_lst, itsR_kl, itsR_tup, ap_rng1, ap_rng2, ap_part, part1_int, ap_noP, ap_sl, ap_sl1, ap_sl2, sl3_ok (cont_kl _ _ _), sl3_ok (cont_str _ _ _), sl3_ok (cont_lst _ _ _), cut_kl, cut_lst, ap_and, ap_and1, ap_or, ap_or1, truK_t, truK_f, ap_okR, ap_not, ap_not1, notV_ok, ap_sto, setSto_ok', ap_lc, lst1_ok, tup1_ok, isi_non_int, isi_non_bool, isi_non_str, isi_non_list, isi_non_tuple, isi_non_seq, isi_bl_int, isi_bl_bool, isi_bl_str, isi_bl_list, isi_bl_tuple, isi_bl_seq, isi_int_int, isi_int_bool, isi_int_str, isi_int_list, isi_int_tuple, isi_int_seq, isi_str_int, isi_str_bool, isi_str_str, isi_str_list, isi_str_tuple, isi_str_seq, isi_lst_int, isi_lst_bool, isi_lst_str, isi_lst_list, isi_lst_tuple, isi_lst_seq, isi_kl_int, isi_kl_bool, isi_kl_str, isi_kl_list, isi_kl_tuple, isi_kl_seq, isi_tup_int, isi_tup_bool, isi_tup_str, isi_tup_list, isi_tup_tuple, isi_tup_seq, isi_kt_int, isi_kt_bool, isi_kt_str, isi_kt_list, isi_kt_tuple, isi_kt_seq, callR_ok, pick_cons, pick_nil, consO_some, List.append_nil, ap_mt, mt1_str, ap_mt2, mt3_ok, Bool.or_true, Bool.true_or, isF_non, isX_non, isF_bl, isX_bl, isF_int, isX_int, isF_str, isX_str, isF_lst, isX_lst, isF_tup, isX_tup, isF_kt, isX_kt, isF_kl, isX_kl, ev_ne_bl, ev_eq_bl, ev_eq_str, beq_self_eq_true, bne_self_eq_false, ev_len_tup, ev_len_kt, le_line, Nat.reduceLeDiff, $ts,*])
theorem chR_ext {z : Str} (hz : z.length ≤ 1000) (k : Int) (ρ S : List Sl) (i : Nat) : ρ[i]? = some (.val (.str z)) → cChain oLe oLe (cC (.int 1)) (cBlt gLen (cConsR (cName i) cNilR)) (cC (.int k)) ρ S = .ok (.d (.bl (lenIn z k))) ρ S false := chain_len hz k ρ S i
section
variable (s0 s1 s2 s3 s4 s5 s6 s8 s9 s10 s11 s12 s13 s14 s15 s16 : Sl)
abbrev r17 (s7 : Sl) (a b : Sl) : List Sl := [s0, s1, s2, s3, s4, s5, s6, s7, a, b, s10, s11, s12, s13, s14, s15, s16]
theorem good1 {z : Str} (hz : z.length ≤ 1000) (ok : OkZ z) (S : List Sl) : (cSet false 8 (cAnd (cBlt (gIsi owT) (cConsR (cName 7) (cConsR (cC (.ty "str")) cNilR))) (cAnd (cChain oLe oLe (cC (.int 1)) (cBlt gLen (cConsR (cName 7) cNilR)) (cC (.int 5))) (cCall m__law_only 2 0 cb__law_only_2M (cConsD (cName 7) (cConsD (cC (.str "abcdefghijklmnopqrstuvwxyz0123456789")) cNilD)) cNilD)))) (r17 s0 s1 s2 s3 s4 s5 s6 s10 s11 s12 s13 s14 s15 s16 (.val (.str z)) s8 s9) S = .ok .nx (r17 s0 s1 s2 s3 s4 s5 s6 s10 s11 s12 s13 s14 s15 s16 (.val (.str z)) (.val (.bl (lenIn z 5 && allIn z SG))) s9) S false := by
  have e1 := fun ρ S h => chain_len hz 5 ρ S 7 h
  cases h1 : lenIn z 5 with
  | false => simp_arith [e1 (r17 s0 s1 s2 s3 s4 s5 s6 s10 s11 s12 s13 s14 s15 s16 (.val (.str z)) s8 s9) S rfl, h1, Bool.false_and]
  | true => simp_arith [e1 (r17 s0 s1 s2 s3 s4 s5 s6 s10 s11 s12 s13 s14 s15 s16 (.val (.str z)) s8 s9) S rfl, h1, Bool.true_and, lonly_str hz ok]
theorem named1 {z : Str} (hz : z.length ≤ 1000) (ok : OkZ z) (S : List Sl) : (cSet false 9 (cAnd (cBlt (gIsi owT) (cConsR (cName 7) (cConsR (cC (.ty "str")) cNilR))) (cAnd (cChain oLe oLe (cC (.int 1)) (cBlt gLen (cConsR (cName 7) cNilR)) (cC (.int 6))) (cCall m__law_only 2 0 cb__law_only_2M (cConsD (cName 7) (cConsD (cC (.str "abcdefghijklmnopqrstuvwxyz")) cNilD)) cNilD)))) (r17 s0 s1 s2 s3 s4 s5 s6 s10 s11 s12 s13 s14 s15 s16 (.val (.str z)) s8 s9) S = .ok .nx (r17 s0 s1 s2 s3 s4 s5 s6 s10 s11 s12 s13 s14 s15 s16 (.val (.str z)) s8 (.val (.bl (lenIn z 6 && allIn z LT)))) S false := by
  have e1 := fun ρ S h => chain_len hz 6 ρ S 7 h
  cases h1 : lenIn z 6 with
  | false => simp_arith [e1 (r17 s0 s1 s2 s3 s4 s5 s6 s10 s11 s12 s13 s14 s15 s16 (.val (.str z)) s8 s9) S rfl, h1, Bool.false_and]
  | true => simp_arith [e1 (r17 s0 s1 s2 s3 s4 s5 s6 s10 s11 s12 s13 s14 s15 s16 (.val (.str z)) s8 s9) S rfl, h1, Bool.true_and, lonly_str hz ok]

theorem cutS_pre (z : Str) {k : Nat} (h : k ≤ z.length) : (cutS z none (some (k : Int))).cps.toList = z.cps.toList.take k := by
  unfold cutS
  show (((z.cps.toList.drop (HT.sIx z.length 0 none)).take (HT.sIx z.length z.length (some (k : Int)) - HT.sIx z.length 0 none)).toArray).toList = _
  rw [HT.sIx_none, HT.sIx_nat, Nat.min_eq_left h]
  simp
def dupW (z : Str) (d : D) : Bool := match d with
  | .int k => (match z.cps.toList[k.toNat]? with
    | some c => decide (c ∈ z.cps.toList.take k.toNat)
    | none => false)
  | _ => false
theorem dup_range (z : Str) : ((rangeD 0 z.length).filter (dupW z)).map id = ((List.range z.length).filter fun k => match z.cps.toList[k]? with | some c => decide (c ∈ z.cps.toList.take k) | none => false).map fun (i : Nat) => D.int (0 + i) := by
  unfold rangeD
  rw [List.filter_map, List.map_id]
  congr 1
  congr 1
  funext k
  show dupW z (.int (0 + (k : Int))) = _
  unfold dupW
  simp only [Int.zero_add, Int.toNat_natCast]
theorem good2_t {z : Str} (hz : z.length ≤ 1000) (S : List Sl) : (cSet false 8 (cAnd (cName 8) (cBin (oEq false) (cLc (cRng1 (cConsD (cBlt gLen (cConsR (cName 7) cNilR)) cNilD)) [16] (.nm 16) (cTst (cBin (oIn false) (cBin oGet (cName 7) (cName 16)) (cSl oCut (cName 7) cNoP (cPart (cName 16))))) (cName 16)) (cLst cNilD)))) (r17 s0 s1 s2 s3 s4 s5 s6 s10 s11 s12 s13 s14 s15 s16 (.val (.str z)) (.val (.bl true)) s9) S = .ok .nx (r17 s0 s1 s2 s3 s4 s5 s6 s10 s11 s12 s13 s14 s15 .emp (.val (.str z)) (.val (.bl (lawD z))) s9) S true := by
  have hz' := le_line hz
  have e : compM [16] (.nm 16) (cTst (cBin (oIn false) (cBin oGet (cName 7) (cName 16)) (cSl oCut (cName 7) cNoP (cPart (cName 16))))) (cName 16) (rangeD 0 z.length) [] (r17 s0 s1 s2 s3 s4 s5 s6 s10 s11 s12 s13 s14 s15 .emp (.val (.str z)) (.val (.bl true)) s9) S = .ok ([] ++ ((rangeD 0 z.length).filter (dupW z)).map id) (r17 s0 s1 s2 s3 s4 s5 s6 s10 s11 s12 s13 s14 s15 .emp (.val (.str z)) (.val (.bl true)) s9) S false := by
    refine compM_pure (dupW z) id _ [] ?_ fun d hd => ?_
    · rw [rangeD_len]
      exact le_line (by simp; exact hz)
    · obtain ⟨k, hk, rfl⟩ := rangeD_mem hd
      have hl : z.cps.toList.length = z.length := by simp [Str.length]
      have hk2 : k < z.cps.toList.length := by omega
      have eg : z.cps.toList[k]? = some z.cps.toList[k] := List.getElem?_eq_getElem hk2
      have ew : dupW z (.int (0 + (k : Int))) = decide (z.cps.toList[k] ∈ z.cps.toList.take k) := by
        unfold dupW
        simp only [Int.zero_add, Int.toNat_natCast, eg]
      have k0 : (0 : Int) ≤ (k : Int) := by omega
      have ec := cutS_pre z (k := k) (by omega)
      rw [ew]
      refine ⟨(r17 s0 s1 s2 s3 s4 s5 s6 s10 s11 s12 s13 s14 s15 (.val (.int (0 + (k : Int)))) (.val (.str z)) (.val (.bl true)) s9), (r17 s0 s1 s2 s3 s4 s5 s6 s10 s11 s12 s13 s14 s15 (.val (.int (0 + (k : Int)))) (.val (.str z)) (.val (.bl true)) s9), false, rfl, ?_, rfl, fun _ => ⟨(r17 s0 s1 s2 s3 s4 s5 s6 s10 s11 s12 s13 s14 s15 (.val (.int (0 + (k : Int)))) (.val (.str z)) (.val (.bl true)) s9), false, ?_, rfl⟩⟩
      · simp_arith [Int.zero_add, ev_get_str hz', k0, Int.toNat_natCast, eg, cut_str hz', ev_in_sign, ec]
      · simp_arith [id]
  rw [List.nil_append, dup_range] at e
  have e3 : lcR [16] (.nm 16) (cTst (cBin (oIn false) (cBin oGet (cName 7) (cName 16)) (cSl oCut (cName 7) cNoP (cPart (cName 16))))) (cName 16) (.ok (rangeD 0 z.length) (r17 s0 s1 s2 s3 s4 s5 s6 s10 s11 s12 s13 s14 s15 s16 (.val (.str z)) (.val (.bl true)) s9) S false) = _ := lcR_ok e
  have e4 := eq_nil (fun i : Nat => D.int (0 + i)) (fun i => .int (0 + i)) (fun i => dat_int1 _) ((List.range z.length).filter fun k => match z.cps.toList[k]? with | some c => decide (c ∈ z.cps.toList.take k) | none => false) (fun a _ => ⟨by rw [PyData.canLay0], by rw [PyData.depth]⟩)
  have e5 : ∀ ρ S, rng1R [.int (z.length : Int)] ρ S = .ok (rangeD 0 z.length) ρ S false := fun ρ S => by
    have := rng1R_ok (j := (z.length : Int)) (ρ := ρ) (S := S) (by omega) (by omega)
    rwa [Int.toNat_natCast] at this
  simp_arith [ev_len_str hz', e5, e3, e4, lawD]
  all_goals rfl
theorem good2_f {d : D} (S : List Sl) : (cSet false 8 (cAnd (cName 8) (cBin (oEq false) (cLc (cRng1 (cConsD (cBlt gLen (cConsR (cName 7) cNilR)) cNilD)) [16] (.nm 16) (cTst (cBin (oIn false) (cBin oGet (cName 7) (cName 16)) (cSl oCut (cName 7) cNoP (cPart (cName 16))))) (cName 16)) (cLst cNilD)))) (r17 s0 s1 s2 s3 s4 s5 s6 s10 s11 s12 s13 s14 s15 s16 (.val d) (.val (.bl false)) s9) S = .ok .nx (r17 s0 s1 s2 s3 s4 s5 s6 s10 s11 s12 s13 s14 s15 s16 (.val d) (.val (.bl false)) s9) S false := by
  simp_arith []
theorem msame_eq : ∀ n, m__law_same n = sameM n
  | 0 => rfl
  | n + 1 => by
    show defM 4 (c__law_same (m__law_same n)) = defM 4 (sameC (sameM n))
    rw [msame_eq n]
    rfl
theorem check1 {d : D} {g n : Bool} (S : List Sl) (h1 : ∀ S, m_is_symbols [d] S = .ok (.d (.bl g)) [] S false) (h2 : ∀ S, m_is_name [d] S = .ok (.d (.bl n)) [] S false) : (cIfS (cNotB (cTru (cCall (m__law_same 6) 2 0 cb__law_same_2M (cConsD (cLst (cConsD (cCall m_is_symbols 1 0 cb_is_symbols_1M (cConsD (cName 7) cNilD) cNilD) (cConsD (cCall m_is_symbols 0 1 cb_is_symbols_0_valueM cNilD (cConsD (cName 7) cNilD)) (cConsD (cCall m_is_name 1 0 cb_is_name_1M (cConsD (cName 7) cNilD) cNilD) (cConsD (cCall m_is_name 0 1 cb_is_name_0_valueM cNilD (cConsD (cName 7) cNilD)) cNilD))))) (cConsD (cLst (cConsD (cName 8) (cConsD (cName 8) (cConsD (cName 9) (cConsD (cName 9) cNilD))))) cNilD)) cNilD))) (cRet (cC (.bl false))) cNx) (r17 s0 s1 s2 s3 s4 s5 s6 s10 s11 s12 s13 s14 s15 s16 (.val d) (.val (.bl g)) (.val (.bl n))) S = .ok .nx (r17 s0 s1 s2 s3 s4 s5 s6 s10 s11 s12 s13 s14 s15 s16 (.val d) (.val (.bl g)) (.val (.bl n))) S false := by
  have e := same_lst (n := 5) (xs := [.bl g, .bl g, .bl n, .bl n]) (ys := [.bl g, .bl g, .bl n, .bl n]) (.cons (same_bl 4 g) (.cons (same_bl 4 g) (.cons (same_bl 4 n) (.cons (same_bl 4 n) .nil)))) (by simp)
  simp_arith [msame_eq, h1, h2, e S]
end
end Lk02

namespace Lk02
open PySem PySem.Spec PyProof.Rows L2 DV
local macro_rules
  | `(tactic| simp_arith [$ts,*]) => `(tactic| simp only [ap_def, env0, List.map_cons, List.map_nil, List.length_cons, List.length_nil, List.replicate, Nat.reduceAdd, Nat.reduceSub, List.cons_append, List.nil_append,
    ap_seq, ap_put, ap_D, ap_bin, ap_name, List.getElem?_cons_zero, List.getElem?_cons_succ, nameR_val, nameR_lst, Res.bind_ok, ap_bin1, ap_C, ap_bin2, cont_ob0, cont_int, cont_bl, cont_str, cont_non, cont_ty, cont_lst, cont_kl, cont_tup, cont_kt, cont_fr, cont_env, rd_lst, obind_some,
    two_ok, ev_get_lst, ev_get_tup, atI_nn, Int.reduceLE, Int.reduceToNat, omap_some, lift_some, addt_ok, Bool.or_false, Bool.or_self, ev_add_int, ev_sub_int, toD_d, toD_fr, frz_lst, ap_put1, ap_put2, ap_put3, getP_ob0, putR_at, Int.reduceLT, List.set_cons_succ, List.set_cons_zero,
    seqR_nx, ap_ifS, ap_andB, ap_orB, ap_notB, ap_notR, ap_tst, ev_eq_int, ev_ne_int, tstR_ok, ap_andB1, ap_orB1, decide_false, decide_true, Bool.not_true, Bool.not_false, pickM_f, pickM_t, ap_okB, ap_ifS1, ap_nx, ev_gt_int, ev_ge_int, ev_lt_int, ev_le_int,
    ap_set, ap_set1, setR_ok, ap_blt, ap_consR, ap_nilR, ap_consD, ap_nilD, ap_cons1, ap_consT, ap_blt1, conts_cons, conts_nil, cons2_some, one_ok, ev_gint_int, ev_gabs_int, ev_len_lst, ev_mod_int, ev_fdiv_int, ap_ret, ap_ret1, outR_d, outR_fr, ap_rtR, seqR_rt, endM_rt, endM_nx, Nat.reduceLT,
    ap_call, ap_call1, at_ok, ap_tup, ap_lst, ap_tru, ap_tru1, truR_ok, truD_bl, ap_neg, ap_neg1, negR_ok, ap_for, forR_ok, ap_its, itsR_str, itsR_lst, itsR_kl, itsR_tup, ap_rng1, ap_rng2, ap_part, part1_int, ap_noP, ap_sl, ap_sl1, ap_sl2, sl3_ok (cont_kl _ _ _), sl3_ok (cont_str _ _ _), sl3_ok (cont_lst _ _ _), cut_kl, cut_lst, ap_and, ap_and1, ap_or, ap_or1, truK_t, truK_f, ap_okR, ap_not, ap_not1, notV_ok, ap_sto, setSto_ok', ap_lc, lst1_ok, tup1_ok, isi_non_int, isi_non_bool, isi_non_str, isi_non_list, isi_non_tuple, isi_non_seq, isi_bl_int, isi_bl_bool, isi_bl_str, isi_bl_list, isi_bl_tuple, isi_bl_seq, isi_int_int, isi_int_bool, isi_int_str, isi_int_list, isi_int_tuple, isi_int_seq, isi_str_int, isi_str_bool, isi_str_str, isi_str_list, isi_str_tuple, isi_str_seq, isi_lst_int, isi_lst_bool, isi_lst_str, isi_lst_list, isi_lst_tuple, isi_lst_seq, isi_kl_int, isi_kl_bool, isi_kl_str, isi_kl_list, isi_kl_tuple, isi_kl_seq, isi_tup_int, isi_tup_bool, isi_tup_str, isi_tup_list, isi_tup_tuple, isi_tup_seq, isi_kt_int, isi_kt_bool, isi_kt_str, isi_kt_list, isi_kt_tuple, isi_kt_seq, callR_ok, pick_cons, pick_nil, consO_some, List.append_nil, ap_mt, mt1_str, ap_mt2, mt3_ok, Bool.or_true, Bool.true_or, isF_non, isX_non, isF_bl, isX_bl, isF_int, isX_int, isF_str, isX_str, isF_lst, isX_lst, isF_tup, isX_tup, isF_kt, isX_kt, isF_kl, isX_kl, ev_ne_bl, ev_eq_bl, ev_eq_str, beq_self_eq_true, bne_self_eq_false, ev_len_tup, ev_len_kt, le_line, Nat.reduceLeDiff, $ts,*])
def OkD (d : D) : Prop := (∃ z, d = .str z ∧ z.length ≤ 1000 ∧ OkZ z) ∨ (gIsi owT [d, .ty "str"] = some (.d (.bl false)) ∧ ∀ ρ S, cont ρ S (.d d) = some d)
section
variable (s0 s1 s2 s3 s4 s5 s6 s8 s9 s10 s11 s12 s13 s14 s15 s16 : Sl)
theorem turn_str {z : Str} (hz : z.length ≤ 1000) (ok : OkZ z) (S : List Sl) : ∃ a b s t, (cSeq (cSet false 8 (cAnd (cBlt (gIsi owT) (cConsR (cName 7) (cConsR (cC (.ty "str")) cNilR))) (cAnd (cChain oLe oLe (cC (.int 1)) (cBlt gLen (cConsR (cName 7) cNilR)) (cC (.int 5))) (cCall m__law_only 2 0 cb__law_only_2M (cConsD (cName 7) (cConsD (cC (.str "abcdefghijklmnopqrstuvwxyz0123456789")) cNilD)) cNilD))))
    (cSeq (cSet false 8 (cAnd (cName 8) (cBin (oEq false) (cLc (cRng1 (cConsD (cBlt gLen (cConsR (cName 7) cNilR)) cNilD)) [16] (.nm 16) (cTst (cBin (oIn false) (cBin oGet (cName 7) (cName 16)) (cSl oCut (cName 7) cNoP (cPart (cName 16))))) (cName 16)) (cLst cNilD))))
    (cSeq (cSet false 9 (cAnd (cBlt (gIsi owT) (cConsR (cName 7) (cConsR (cC (.ty "str")) cNilR))) (cAnd (cChain oLe oLe (cC (.int 1)) (cBlt gLen (cConsR (cName 7) cNilR)) (cC (.int 6))) (cCall m__law_only 2 0 cb__law_only_2M (cConsD (cName 7) (cConsD (cC (.str "abcdefghijklmnopqrstuvwxyz")) cNilD)) cNilD))))
    (cIfS (cNotB (cTru (cCall (m__law_same 6) 2 0 cb__law_same_2M (cConsD (cLst (cConsD (cCall m_is_symbols 1 0 cb_is_symbols_1M (cConsD (cName 7) cNilD) cNilD) (cConsD (cCall m_is_symbols 0 1 cb_is_symbols_0_valueM cNilD (cConsD (cName 7) cNilD)) (cConsD (cCall m_is_name 1 0 cb_is_name_1M (cConsD (cName 7) cNilD) cNilD) (cConsD (cCall m_is_name 0 1 cb_is_name_0_valueM cNilD (cConsD (cName 7) cNilD)) cNilD))))) (cConsD (cLst (cConsD (cName 8) (cConsD (cName 8) (cConsD (cName 9) (cConsD (cName 9) cNilD))))) cNilD)) cNilD))) (cRet (cC (.bl false))) cNx)))) (r17 s0 s1 s2 s3 s4 s5 s6 s10 s11 s12 s13 s14 s15 s16 (.val (.str z)) s8 s9) S = .ok .nx (r17 s0 s1 s2 s3 s4 s5 s6 s10 s11 s12 s13 s14 s15 s (.val (.str z)) a b) S t := by
  rw [ap_seq, good1 (hz := hz) (ok := ok), seqR_nx, ap_seq]
  cases h : (lenIn z 5 && allIn z SG) with
  | true =>
    rw [good2_t (hz := hz), seqR_nx, ap_seq, named1 (hz := hz) (ok := ok), seqR_nx]
    obtain ⟨h1, h2⟩ := Bool.and_eq_true_iff.mp h
    refine ⟨_, _, _, _, check1 (d := .str z) (g := lawD z) (n := lenIn z 6 && allIn z LT) (S := S) (h1 := fun S => ?_) (h2 := fun S => ?_) ..⟩
    · rw [isym_str hz, dist_law, h1, h2]
      rfl
    · rw [iname_str hz, Bool.and_comm]
  | false =>
    rw [good2_f (d := .str z), seqR_nx, ap_seq, named1 (hz := hz) (ok := ok), seqR_nx]
    refine ⟨_, _, _, _, check1 (d := .str z) (g := false) (n := lenIn z 6 && allIn z LT) (S := S) (h1 := fun S => ?_) (h2 := fun S => ?_) ..⟩
    · rw [isym_str hz, dist_law, ← Bool.and_assoc, Bool.and_comm (allIn z SG), h]
      rfl
    · rw [iname_str hz, Bool.and_comm]
theorem turn_no {d : D} (h : gIsi owT [d, .ty "str"] = some (.d (.bl false))) (hc : ∀ ρ S, cont ρ S (.d d) = some d) (S : List Sl) : ∃ a b s t, (cSeq (cSet false 8 (cAnd (cBlt (gIsi owT) (cConsR (cName 7) (cConsR (cC (.ty "str")) cNilR))) (cAnd (cChain oLe oLe (cC (.int 1)) (cBlt gLen (cConsR (cName 7) cNilR)) (cC (.int 5))) (cCall m__law_only 2 0 cb__law_only_2M (cConsD (cName 7) (cConsD (cC (.str "abcdefghijklmnopqrstuvwxyz0123456789")) cNilD)) cNilD))))
    (cSeq (cSet false 8 (cAnd (cName 8) (cBin (oEq false) (cLc (cRng1 (cConsD (cBlt gLen (cConsR (cName 7) cNilR)) cNilD)) [16] (.nm 16) (cTst (cBin (oIn false) (cBin oGet (cName 7) (cName 16)) (cSl oCut (cName 7) cNoP (cPart (cName 16))))) (cName 16)) (cLst cNilD))))
    (cSeq (cSet false 9 (cAnd (cBlt (gIsi owT) (cConsR (cName 7) (cConsR (cC (.ty "str")) cNilR))) (cAnd (cChain oLe oLe (cC (.int 1)) (cBlt gLen (cConsR (cName 7) cNilR)) (cC (.int 6))) (cCall m__law_only 2 0 cb__law_only_2M (cConsD (cName 7) (cConsD (cC (.str "abcdefghijklmnopqrstuvwxyz")) cNilD)) cNilD))))
    (cIfS (cNotB (cTru (cCall (m__law_same 6) 2 0 cb__law_same_2M (cConsD (cLst (cConsD (cCall m_is_symbols 1 0 cb_is_symbols_1M (cConsD (cName 7) cNilD) cNilD) (cConsD (cCall m_is_symbols 0 1 cb_is_symbols_0_valueM cNilD (cConsD (cName 7) cNilD)) (cConsD (cCall m_is_name 1 0 cb_is_name_1M (cConsD (cName 7) cNilD) cNilD) (cConsD (cCall m_is_name 0 1 cb_is_name_0_valueM cNilD (cConsD (cName 7) cNilD)) cNilD))))) (cConsD (cLst (cConsD (cName 8) (cConsD (cName 8) (cConsD (cName 9) (cConsD (cName 9) cNilD))))) cNilD)) cNilD))) (cRet (cC (.bl false))) cNx)))) (r17 s0 s1 s2 s3 s4 s5 s6 s10 s11 s12 s13 s14 s15 s16 (.val d) s8 s9) S = .ok .nx (r17 s0 s1 s2 s3 s4 s5 s6 s10 s11 s12 s13 s14 s15 s (.val d) a b) S t := by
  have e1 : (cSet false 8 (cAnd (cBlt (gIsi owT) (cConsR (cName 7) (cConsR (cC (.ty "str")) cNilR))) (cAnd (cChain oLe oLe (cC (.int 1)) (cBlt gLen (cConsR (cName 7) cNilR)) (cC (.int 5))) (cCall m__law_only 2 0 cb__law_only_2M (cConsD (cName 7) (cConsD (cC (.str "abcdefghijklmnopqrstuvwxyz0123456789")) cNilD)) cNilD)))) (r17 s0 s1 s2 s3 s4 s5 s6 s10 s11 s12 s13 s14 s15 s16 (.val d) s8 s9) S = .ok .nx (r17 s0 s1 s2 s3 s4 s5 s6 s10 s11 s12 s13 s14 s15 s16 (.val d) (.val (.bl false)) s9) S false := by simp_arith [h, hc]
  have e3 : (cSet false 9 (cAnd (cBlt (gIsi owT) (cConsR (cName 7) (cConsR (cC (.ty "str")) cNilR))) (cAnd (cChain oLe oLe (cC (.int 1)) (cBlt gLen (cConsR (cName 7) cNilR)) (cC (.int 6))) (cCall m__law_only 2 0 cb__law_only_2M (cConsD (cName 7) (cConsD (cC (.str "abcdefghijklmnopqrstuvwxyz")) cNilD)) cNilD)))) (r17 s0 s1 s2 s3 s4 s5 s6 s10 s11 s12 s13 s14 s15 s16 (.val d) (.val (.bl false)) s9) S = .ok .nx (r17 s0 s1 s2 s3 s4 s5 s6 s10 s11 s12 s13 s14 s15 s16 (.val d) (.val (.bl false)) (.val (.bl false))) S false := by simp_arith [h, hc]
  rw [ap_seq, e1, seqR_nx, ap_seq, good2_f (d := d), seqR_nx, ap_seq, e3, seqR_nx]
  exact ⟨_, _, _, _, check1 (d := d) (g := false) (n := false) (S := S) (h1 := fun S => isym_no S h hc) (h2 := fun S => iname_no S h hc) ..⟩
end
section
variable (s0 s1 s2 s7 s8 s9 s10 s11 s12 s13 s14 s15 s16 : Sl)
theorem inner {d3 d4 d5 d6 : D} (h3 : OkD d3) (h4 : OkD d4) (h5 : OkD d5) (h6 : OkD d6) (S : List Sl) : ∃ x7 x8 x9 x16, (cFor (cIts (cLst (cConsD (cName 3) (cConsD (cName 4) (cConsD (cName 5) (cConsD (cName 6) cNilD)))))) (.nm 7) (cSeq (cSet false 8 (cAnd (cBlt (gIsi owT) (cConsR (cName 7) (cConsR (cC (.ty "str")) cNilR))) (cAnd (cChain oLe oLe (cC (.int 1)) (cBlt gLen (cConsR (cName 7) cNilR)) (cC (.int 5))) (cCall m__law_only 2 0 cb__law_only_2M (cConsD (cName 7) (cConsD (cC (.str "abcdefghijklmnopqrstuvwxyz0123456789")) cNilD)) cNilD))))
    (cSeq (cSet false 8 (cAnd (cName 8) (cBin (oEq false) (cLc (cRng1 (cConsD (cBlt gLen (cConsR (cName 7) cNilR)) cNilD)) [16] (.nm 16) (cTst (cBin (oIn false) (cBin oGet (cName 7) (cName 16)) (cSl oCut (cName 7) cNoP (cPart (cName 16))))) (cName 16)) (cLst cNilD))))
    (cSeq (cSet false 9 (cAnd (cBlt (gIsi owT) (cConsR (cName 7) (cConsR (cC (.ty "str")) cNilR))) (cAnd (cChain oLe oLe (cC (.int 1)) (cBlt gLen (cConsR (cName 7) cNilR)) (cC (.int 6))) (cCall m__law_only 2 0 cb__law_only_2M (cConsD (cName 7) (cConsD (cC (.str "abcdefghijklmnopqrstuvwxyz")) cNilD)) cNilD))))
    (cIfS (cNotB (cTru (cCall (m__law_same 6) 2 0 cb__law_same_2M (cConsD (cLst (cConsD (cCall m_is_symbols 1 0 cb_is_symbols_1M (cConsD (cName 7) cNilD) cNilD) (cConsD (cCall m_is_symbols 0 1 cb_is_symbols_0_valueM cNilD (cConsD (cName 7) cNilD)) (cConsD (cCall m_is_name 1 0 cb_is_name_1M (cConsD (cName 7) cNilD) cNilD) (cConsD (cCall m_is_name 0 1 cb_is_name_0_valueM cNilD (cConsD (cName 7) cNilD)) cNilD))))) (cConsD (cLst (cConsD (cName 8) (cConsD (cName 8) (cConsD (cName 9) (cConsD (cName 9) cNilD))))) cNilD)) cNilD))) (cRet (cC (.bl false))) cNx))))) (r17 s0 s1 s2 (.val d3) (.val d4) (.val d5) (.val d6) s10 s11 s12 s13 s14 s15 s16 s7 s8 s9) S = .ok .nx (r17 s0 s1 s2 (.val d3) (.val d4) (.val d5) (.val d6) s10 s11 s12 s13 s14 s15 x16 x7 x8 x9) S false := by
  have e : (cIts (cLst (cConsD (cName 3) (cConsD (cName 4) (cConsD (cName 5) (cConsD (cName 6) cNilD)))))) (r17 s0 s1 s2 (.val d3) (.val d4) (.val d5) (.val d6) s10 s11 s12 s13 s14 s15 s16 s7 s8 s9) S = .ok [d3, d4, d5, d6] (r17 s0 s1 s2 (.val d3) (.val d4) (.val d5) (.val d6) s10 s11 s12 s13 s14 s15 s16 s7 s8 s9) S false := by simp_arith []
  rw [ap_for, e, forR_ok]
  have loop := forM_nx (g := .nm 7) (b := (cSeq (cSet false 8 (cAnd (cBlt (gIsi owT) (cConsR (cName 7) (cConsR (cC (.ty "str")) cNilR))) (cAnd (cChain oLe oLe (cC (.int 1)) (cBlt gLen (cConsR (cName 7) cNilR)) (cC (.int 5))) (cCall m__law_only 2 0 cb__law_only_2M (cConsD (cName 7) (cConsD (cC (.str "abcdefghijklmnopqrstuvwxyz0123456789")) cNilD)) cNilD))))
    (cSeq (cSet false 8 (cAnd (cName 8) (cBin (oEq false) (cLc (cRng1 (cConsD (cBlt gLen (cConsR (cName 7) cNilR)) cNilD)) [16] (.nm 16) (cTst (cBin (oIn false) (cBin oGet (cName 7) (cName 16)) (cSl oCut (cName 7) cNoP (cPart (cName 16))))) (cName 16)) (cLst cNilD))))
    (cSeq (cSet false 9 (cAnd (cBlt (gIsi owT) (cConsR (cName 7) (cConsR (cC (.ty "str")) cNilR))) (cAnd (cChain oLe oLe (cC (.int 1)) (cBlt gLen (cConsR (cName 7) cNilR)) (cC (.int 6))) (cCall m__law_only 2 0 cb__law_only_2M (cConsD (cName 7) (cConsD (cC (.str "abcdefghijklmnopqrstuvwxyz")) cNilD)) cNilD))))
    (cIfS (cNotB (cTru (cCall (m__law_same 6) 2 0 cb__law_same_2M (cConsD (cLst (cConsD (cCall m_is_symbols 1 0 cb_is_symbols_1M (cConsD (cName 7) cNilD) cNilD) (cConsD (cCall m_is_symbols 0 1 cb_is_symbols_0_valueM cNilD (cConsD (cName 7) cNilD)) (cConsD (cCall m_is_name 1 0 cb_is_name_1M (cConsD (cName 7) cNilD) cNilD) (cConsD (cCall m_is_name 0 1 cb_is_name_0_valueM cNilD (cConsD (cName 7) cNilD)) cNilD))))) (cConsD (cLst (cConsD (cName 8) (cConsD (cName 8) (cConsD (cName 9) (cConsD (cName 9) cNilD))))) cNilD)) cNilD))) (cRet (cC (.bl false))) cNx))))) (fun ρ S' => ∃ x7 x8 x9 x16, ρ = (r17 s0 s1 s2 (.val d3) (.val d4) (.val d5) (.val d6) s10 s11 s12 s13 s14 s15 x16 x7 x8 x9) ∧ S' = S) [d3, d4, d5, d6] (r17 s0 s1 s2 (.val d3) (.val d4) (.val d5) (.val d6) s10 s11 s12 s13 s14 s15 s16 s7 s8 s9) S (by
    rintro d hd ρ S1 ⟨x7, x8, x9, x16, rfl, rfl⟩
    have od : OkD d := by
      simp only [List.mem_cons, List.not_mem_nil, or_false] at hd
      rcases hd with rfl | rfl | rfl | rfl
      · exact h3
      · exact h4
      · exact h5
      · exact h6
    rcases od with ⟨z, rfl, hz, ok⟩ | ⟨h, hc⟩
    · obtain ⟨a, b, s, t, e2⟩ := turn_str s0 s1 s2 (.val d3) (.val d4) (.val d5) (.val d6) x8 x9 s10 s11 s12 s13 s14 s15 x16 hz ok S1
      exact ⟨_, _, _, _, rfl, e2, _, _, _, _, rfl, rfl⟩
    · obtain ⟨a, b, s, t, e2⟩ := turn_no s0 s1 s2 (.val d3) (.val d4) (.val d5) (.val d6) x8 x9 s10 s11 s12 s13 s14 s15 x16 h hc S1
      exact ⟨_, _, _, _, rfl, e2, _, _, _, _, rfl, rfl⟩) ⟨_, _, _, _, rfl, rfl⟩
  obtain ⟨ρ', S', e2, x7, x8, x9, x16, rfl, rfl⟩ := loop
  exact ⟨x7, x8, x9, x16, e2⟩
end
end Lk02

namespace Lk02
open PySem PySem.Spec PyProof.Rows L2 DV
local macro_rules
  | `(tactic| simp_arith [$ts,*]) => `(tactic| simp only [ap_def, env0, List.map_cons, List.map_nil, List.length_cons, List.length_nil, List.replicate, Nat.reduceAdd, Nat.reduceSub, List.cons_append, List.nil_append,
    ap_seq, ap_put, ap_D, ap_bin, ap_name, List.getElem?_cons_zero, List.getElem?_cons_succ, nameR_val, nameR_lst, Res.bind_ok, ap_bin1, ap_C, ap_bin2, cont_ob0, cont_int, cont_bl, cont_str, cont_non, cont_ty, cont_lst, cont_kl, cont_tup, cont_kt, cont_fr, cont_env, rd_lst, obind_some,
    two_ok, ev_get_lst, ev_get_tup, atI_nn, Int.reduceLE, Int.reduceToNat, omap_some, lift_some, addt_ok, Bool.or_false, Bool.or_self, ev_add_int, ev_sub_int, toD_d, toD_fr, frz_lst, ap_put1, ap_put2, ap_put3, getP_ob0, putR_at, Int.reduceLT, List.set_cons_succ, List.set_cons_zero,
    seqR_nx, ap_ifS, ap_andB, ap_orB, ap_notB, ap_notR, ap_tst, ev_eq_int, ev_ne_int, tstR_ok, ap_andB1, ap_orB1, decide_false, decide_true, Bool.not_true, Bool.not_false, pickM_f, pickM_t, ap_okB, ap_ifS1, ap_nx, ev_gt_int, ev_ge_int, ev_lt_int, ev_le_int,
    ap_set, ap_set1, setR_ok, ap_blt, ap_consR, ap_nilR, ap_consD, ap_nilD, ap_cons1, ap_consT, ap_blt1, conts_cons, conts_nil, cons2_some, one_ok, ev_gint_int, ev_gabs_int, ev_len_lst, ev_mod_int, ev_fdiv_int, ap_ret, ap_ret1, outR_d, outR_fr, ap_rtR, seqR_rt, endM_rt, endM_nx, Nat.reduceLT,
    ap_call, ap_call1, at_ok, ap_tup, ap_lst, ap_tru, ap_tru1, truR_ok, truD_bl, ap_neg, ap_neg1, negR_ok, ap_for, forR_ok, ap_its, itsR_str, itsR_lst, itsR_kl, itsR_tup, ap_rng1, ap_rng2, ap_part, part1_int, ap_noP, ap_sl, ap_sl1, ap_sl2, sl3_ok (cont_kl _ _ _), sl3_ok (cont_str _ _ _), sl3_ok (cont_lst _ _ _), cut_kl, cut_lst, ap_and, ap_and1, ap_or, ap_or1, truK_t, truK_f, ap_okR, ap_not, ap_not1, notV_ok, ap_sto, setSto_ok', ap_lc, lst1_ok, tup1_ok, isi_non_int, isi_non_bool, isi_non_str, isi_non_list, isi_non_tuple, isi_non_seq, isi_bl_int, isi_bl_bool, isi_bl_str, isi_bl_list, isi_bl_tuple, isi_bl_seq, isi_int_int, isi_int_bool, isi_int_str, isi_int_list, isi_int_tuple, isi_int_seq, isi_str_int, isi_str_bool, isi_str_str, isi_str_list, isi_str_tuple, isi_str_seq, isi_lst_int, isi_lst_bool, isi_lst_str, isi_lst_list, isi_lst_tuple, isi_lst_seq, isi_kl_int, isi_kl_bool, isi_kl_str, isi_kl_list, isi_kl_tuple, isi_kl_seq, isi_tup_int, isi_tup_bool, isi_tup_str, isi_tup_list, isi_tup_tuple, isi_tup_seq, isi_kt_int, isi_kt_bool, isi_kt_str, isi_kt_list, isi_kt_tuple, isi_kt_seq, callR_ok, pick_cons, pick_nil, consO_some, List.append_nil, ap_mt, mt1_str, ap_mt2, mt3_ok, Bool.or_true, Bool.true_or, isF_non, isX_non, isF_bl, isX_bl, isF_int, isX_int, isF_str, isX_str, isF_lst, isX_lst, isF_tup, isX_tup, isF_kt, isX_kt, isF_kl, isX_kl, ev_ne_bl, ev_eq_bl, ev_eq_str, beq_self_eq_true, bne_self_eq_false, ev_len_tup, ev_len_kt, le_line, Nat.reduceLeDiff, $ts,*])
section
variable (s0 s1 s2 s3 s4 s5 s6 s7 s8 s9 s12 s13 s14 s15 s16 : Sl) (lo sz : Int)
theorem due1 (k : Int) (S : List Sl) : (cSet false 13 (cChain oLe oLe (cName 10) (cName 12) (cBin oAdd (cName 10) (cName 11)))) (r17 s0 s1 s2 s3 s4 s5 s6 (.val (.int lo)) (.val (.int sz)) (.val (.int k)) s13 s14 s15 s16 s7 s8 s9) S = .ok .nx (r17 s0 s1 s2 s3 s4 s5 s6 (.val (.int lo)) (.val (.int sz)) (.val (.int k)) (.val (.bl (decide (lo ≤ k) && decide (k ≤ lo + sz)))) s14 s15 s16 s7 s8 s9) S false := by
  by_cases h : lo ≤ k
  · simp_arith [ap_chain, ap_ch1, ap_ch2, g2_some, h, chR_t, Bool.true_and]
  · simp_arith [ap_chain, ap_ch1, ap_ch2, g2_some, h, chR_f, Bool.false_and]
theorem check2 (h1 : -1000 ≤ lo) (h2 : lo ≤ 1000) (k : Int) (hk : k ≤ 1000) (S : List Sl) : (cIfS (cNotB (cTru (cCall (m__law_same 6) 2 0 cb__law_same_2M (cConsD (cLst (cConsD (cCall m_is_number 1 2 cb_is_number_1_least_mostM (cConsD (cName 12) cNilD) (cConsD (cName 10) (cConsD (cBin oAdd (cName 10) (cName 11)) cNilD))) (cConsD (cCall m_is_number 0 2 cb_is_number_0_most_valueM cNilD (cConsD (cName 12) (cConsD (cName 10) cNilD))) (cConsD (cCall m_is_number 1 1 cb_is_number_1_leastM (cConsD (cName 12) cNilD) (cConsD (cName 10) cNilD)) cNilD)))) (cConsD (cLst (cConsD (cName 13) (cConsD (cBin oLe (cName 10) (cName 12)) (cConsD (cBin oLe (cName 10) (cName 12)) cNilD)))) cNilD)) cNilD))) (cRet (cC (.bl false))) cNx) (r17 s0 s1 s2 s3 s4 s5 s6 (.val (.int lo)) (.val (.int sz)) (.val (.int k)) (.val (.bl (decide (lo ≤ k) && decide (k ≤ lo + sz)))) s14 s15 s16 s7 s8 s9) S = .ok .nx (r17 s0 s1 s2 s3 s4 s5 s6 (.val (.int lo)) (.val (.int sz)) (.val (.int k)) (.val (.bl (decide (lo ≤ k) && decide (k ≤ lo + sz)))) s14 s15 s16 s7 s8 s9) S false := by
  have p1 : (decide (-1000000000000000000000000000000 ≤ lo) && decide (lo ≤ k)) = decide (lo ≤ k) := by
    rw [decide_eq_true (show (-1000000000000000000000000000000 : Int) ≤ lo by omega), Bool.true_and]
  have p2 : (decide (lo ≤ k) && decide (k ≤ 1000000000000000000000000000000)) = decide (lo ≤ k) := by
    rw [decide_eq_true (show k ≤ (1000000000000000000000000000000 : Int) by omega), Bool.and_true]
  have e := same_lst (n := 5) (xs := [.bl (decide (lo ≤ k) && decide (k ≤ lo + sz)), .bl (decide (lo ≤ k)), .bl (decide (lo ≤ k))]) (ys := [.bl (decide (lo ≤ k) && decide (k ≤ lo + sz)), .bl (decide (lo ≤ k)), .bl (decide (lo ≤ k))])
    (.cons (same_bl 4 _) (.cons (same_bl 4 _) (.cons (same_bl 4 _) .nil))) (by simp)
  have i1 := inum_int lo (-1000000000000000000000000000000) k
  have i2 := inum_int k lo 1000000000000000000000000000000
  rw [p1] at i1
  rw [p2] at i2
  simp_arith [msame_eq, i1, i2, inum_int, e S]
theorem numbers (h1 : -1000 ≤ lo) (h2 : lo ≤ 900) (h3 : 0 ≤ sz) (h4 : sz ≤ 90) (S : List Sl) : ∃ x12 x13, (cFor (cRng2 (cConsD (cBin oSub (cName 10) (cC (.int 2))) (cConsD (cBin oAdd (cBin oAdd (cName 10) (cName 11)) (cC (.int 3))) cNilD))) (.nm 12) (cSeq (cSet false 13 (cChain oLe oLe (cName 10) (cName 12) (cBin oAdd (cName 10) (cName 11))))
    (cIfS (cNotB (cTru (cCall (m__law_same 6) 2 0 cb__law_same_2M (cConsD (cLst (cConsD (cCall m_is_number 1 2 cb_is_number_1_least_mostM (cConsD (cName 12) cNilD) (cConsD (cName 10) (cConsD (cBin oAdd (cName 10) (cName 11)) cNilD))) (cConsD (cCall m_is_number 0 2 cb_is_number_0_most_valueM cNilD (cConsD (cName 12) (cConsD (cName 10) cNilD))) (cConsD (cCall m_is_number 1 1 cb_is_number_1_leastM (cConsD (cName 12) cNilD) (cConsD (cName 10) cNilD)) cNilD)))) (cConsD (cLst (cConsD (cName 13) (cConsD (cBin oLe (cName 10) (cName 12)) (cConsD (cBin oLe (cName 10) (cName 12)) cNilD)))) cNilD)) cNilD))) (cRet (cC (.bl false))) cNx))) (r17 s0 s1 s2 s3 s4 s5 s6 (.val (.int lo)) (.val (.int sz)) s12 s13 s14 s15 s16 s7 s8 s9) S = .ok .nx (r17 s0 s1 s2 s3 s4 s5 s6 (.val (.int lo)) (.val (.int sz)) x12 x13 s14 s15 s16 s7 s8 s9) S false := by
  have r2 : ∀ ρ S, rng2R [.int (lo - 2), .int (lo + sz + 3)] ρ S = .ok (rangeD (lo - 2) (lo + sz + 3 - (lo - 2)).toNat) ρ S false := fun ρ S => rng2R_ok (by omega) (by omega) (by omega) (by omega)
  have e : (cRng2 (cConsD (cBin oSub (cName 10) (cC (.int 2))) (cConsD (cBin oAdd (cBin oAdd (cName 10) (cName 11)) (cC (.int 3))) cNilD))) (r17 s0 s1 s2 s3 s4 s5 s6 (.val (.int lo)) (.val (.int sz)) s12 s13 s14 s15 s16 s7 s8 s9) S = .ok (rangeD (lo - 2) (lo + sz + 3 - (lo - 2)).toNat) (r17 s0 s1 s2 s3 s4 s5 s6 (.val (.int lo)) (.val (.int sz)) s12 s13 s14 s15 s16 s7 s8 s9) S false := by simp_arith [r2]
  rw [ap_for, e, forR_ok]
  have loop := forM_nx (g := .nm 12) (b := (cSeq (cSet false 13 (cChain oLe oLe (cName 10) (cName 12) (cBin oAdd (cName 10) (cName 11))))
    (cIfS (cNotB (cTru (cCall (m__law_same 6) 2 0 cb__law_same_2M (cConsD (cLst (cConsD (cCall m_is_number 1 2 cb_is_number_1_least_mostM (cConsD (cName 12) cNilD) (cConsD (cName 10) (cConsD (cBin oAdd (cName 10) (cName 11)) cNilD))) (cConsD (cCall m_is_number 0 2 cb_is_number_0_most_valueM cNilD (cConsD (cName 12) (cConsD (cName 10) cNilD))) (cConsD (cCall m_is_number 1 1 cb_is_number_1_leastM (cConsD (cName 12) cNilD) (cConsD (cName 10) cNilD)) cNilD)))) (cConsD (cLst (cConsD (cName 13) (cConsD (cBin oLe (cName 10) (cName 12)) (cConsD (cBin oLe (cName 10) (cName 12)) cNilD)))) cNilD)) cNilD))) (cRet (cC (.bl false))) cNx))) (fun ρ S' => ∃ x12 x13, ρ = (r17 s0 s1 s2 s3 s4 s5 s6 (.val (.int lo)) (.val (.int sz)) x12 x13 s14 s15 s16 s7 s8 s9) ∧ S' = S) (rangeD (lo - 2) (lo + sz + 3 - (lo - 2)).toNat) (r17 s0 s1 s2 s3 s4 s5 s6 (.val (.int lo)) (.val (.int sz)) s12 s13 s14 s15 s16 s7 s8 s9) S (by
    rintro d hd ρ S1 ⟨x12, x13, rfl, rfl⟩
    obtain ⟨i, hi, rfl⟩ := rangeD_mem hd
    refine ⟨_, _, _, false, rfl, ?_, .val (.int (lo - 2 + (i : Int))), .val (.bl (decide (lo ≤ lo - 2 + (i : Int)) && decide (lo - 2 + (i : Int) ≤ lo + sz))), rfl, rfl⟩
    have f1 := due1 s0 s1 s2 s3 s4 s5 s6 s7 s8 s9 x13 s14 s15 s16 lo sz (lo - 2 + (i : Int)) S1
    have f2 := check2 s0 s1 s2 s3 s4 s5 s6 s7 s8 s9 s14 s15 s16 lo sz h1 (by omega) (lo - 2 + (i : Int)) (by omega) S1
    rw [ap_seq]
    show seqR _ ((cSet false 13 (cChain oLe oLe (cName 10) (cName 12) (cBin oAdd (cName 10) (cName 11)))) (r17 s0 s1 s2 s3 s4 s5 s6 (.val (.int lo)) (.val (.int sz)) (.val (.int (lo - 2 + (i : Int)))) x13 s14 s15 s16 s7 s8 s9) S1) = _
    rw [f1, seqR_nx]
    exact f2) ⟨_, _, rfl, rfl⟩
  obtain ⟨ρ', S', e2, x12, x13, rfl, rfl⟩ := loop
  exact ⟨x12, x13, e2⟩
end
end Lk02

namespace Lk02
open PySem PySem.Spec PyProof.Rows L2 DV
local macro_rules
  | `(tactic| simp_arith [$ts,*]) => `(tactic| simp only [ap_def, env0, List.map_cons, List.map_nil, List.length_cons, List.length_nil, List.replicate, Nat.reduceAdd, Nat.reduceSub, List.cons_append, List.nil_append,
    ap_seq, ap_put, ap_D, ap_bin, ap_name, List.getElem?_cons_zero, List.getElem?_cons_succ, nameR_val, nameR_lst, Res.bind_ok, ap_bin1, ap_C, ap_bin2, cont_ob0, cont_int, cont_bl, cont_str, cont_non, cont_ty, cont_lst, cont_kl, cont_tup, cont_kt, cont_fr, cont_env, rd_lst, obind_some,
    two_ok, ev_get_lst, ev_get_tup, atI_nn, Int.reduceLE, Int.reduceToNat, omap_some, lift_some, addt_ok, Bool.or_false, Bool.or_self, ev_add_int, ev_sub_int, toD_d, toD_fr, frz_lst, ap_put1, ap_put2, ap_put3, getP_ob0, putR_at, Int.reduceLT, List.set_cons_succ, List.set_cons_zero,
    seqR_nx, ap_ifS, ap_andB, ap_orB, ap_notB, ap_notR, ap_tst, ev_eq_int, ev_ne_int, tstR_ok, ap_andB1, ap_orB1, decide_false, decide_true, Bool.not_true, Bool.not_false, pickM_f, pickM_t, ap_okB, ap_ifS1, ap_nx, ev_gt_int, ev_ge_int, ev_lt_int, ev_le_int,
    ap_set, ap_set1, setR_ok, ap_blt, ap_consR, ap_nilR, ap_consD, ap_nilD, ap_cons1, ap_consT, ap_blt1, conts_cons, conts_nil, cons2_some, one_ok, ev_gint_int, ev_gabs_int, ev_len_lst, ev_mod_int, ev_fdiv_int, ap_ret, ap_ret1, outR_d, outR_fr, ap_rtR, seqR_rt, endM_rt, endM_nx, Nat.reduceLT,
    ap_call, ap_call1, at_ok, ap_tup, ap_lst, ap_tru, ap_tru1, truR_ok, truD_bl, ap_neg, ap_neg1, negR_ok, ap_for, forR_ok, ap_its, itsR_str, itsR_lst, itsR_kl, itsR_tup, ap_rng1, ap_rng2, ap_part, part1_int, ap_noP, ap_sl, ap_sl1, ap_sl2, sl3_ok (cont_kl _ _ _), sl3_ok (cont_str _ _ _), sl3_ok (cont_lst _ _ _), cut_kl, cut_lst, ap_and, ap_and1, ap_or, ap_or1, truK_t, truK_f, ap_okR, ap_not, ap_not1, notV_ok, ap_sto, setSto_ok', ap_lc, lst1_ok, tup1_ok, isi_non_int, isi_non_bool, isi_non_str, isi_non_list, isi_non_tuple, isi_non_seq, isi_bl_int, isi_bl_bool, isi_bl_str, isi_bl_list, isi_bl_tuple, isi_bl_seq, isi_int_int, isi_int_bool, isi_int_str, isi_int_list, isi_int_tuple, isi_int_seq, isi_str_int, isi_str_bool, isi_str_str, isi_str_list, isi_str_tuple, isi_str_seq, isi_lst_int, isi_lst_bool, isi_lst_str, isi_lst_list, isi_lst_tuple, isi_lst_seq, isi_kl_int, isi_kl_bool, isi_kl_str, isi_kl_list, isi_kl_tuple, isi_kl_seq, isi_tup_int, isi_tup_bool, isi_tup_str, isi_tup_list, isi_tup_tuple, isi_tup_seq, isi_kt_int, isi_kt_bool, isi_kt_str, isi_kt_list, isi_kt_tuple, isi_kt_seq, callR_ok, pick_cons, pick_nil, consO_some, List.append_nil, ap_mt, mt1_str, ap_mt2, mt3_ok, Bool.or_true, Bool.true_or, isF_non, isX_non, isF_bl, isX_bl, isF_int, isX_int, isF_str, isX_str, isF_lst, isX_lst, isF_tup, isX_tup, isF_kt, isX_kt, isF_kl, isX_kl, ev_ne_bl, ev_eq_bl, ev_eq_str, beq_self_eq_true, bne_self_eq_false, ev_len_tup, ev_len_kt, le_line, Nat.reduceLeDiff, $ts,*])
theorem okz_cat {cs : List Nat} {zl : List Nat} (h : ∀ c ∈ cs, c ∈ zl) (hz : ∀ c ∈ zl, (PyData.str ⟨#[c]⟩).canLay0 = true) : OkZ (catS cs) := fun c hc => hz c (h c (by simpa [catS] using hc))
theorem okd_cat {cs zl : List Nat} {n : Int} (hn : (cs.length : Int) < n) (hn2 : n ≤ 1000) (h : ∀ c ∈ cs, c ∈ zl) (hz : ∀ c ∈ zl, (PyData.str ⟨#[c]⟩).canLay0 = true) : OkD (.str (catS cs)) :=
  .inl ⟨catS cs, rfl, by show cs.toArray.size ≤ 1000; simp; omega, okz_cat h hz⟩
theorem word3 {b : Sl} (h : Bag b) {ρ : List Sl} (hi : ρ[1]? = some (.val (.ob 0))) (hk : 16 < ρ.length) : ∃ d b' t, OkD d ∧ Bag b' ∧ (cSet false 3 (cMt "str" gJoin (cC (.str "")) (cConsR (cLc (cRng1 (cConsD (cCall m__law_draw 2 0 cb__law_draw_2M (cConsD (cName 1) (cConsD (cC (.int 9)) cNilD)) cNilD) cNilD)) [16] (.nm 16) cYes (cCall m__law_of 2 0 cb__law_of_2M (cConsD (cName 1) (cConsD (cC (.str "abmzqAZ09_ -xy")) cNilD)) cNilD)) cNilR))) ρ [b] = .ok .nx ((ρ.set 16 .emp).set 3 (.val d)) [b'] t := by
  obtain ⟨cs, b', t, hb, l, hz, e⟩ := h.word (z := "abmzqAZ09_ -xy") (n := 9) (rest := []) (by decide) (by decide) (by decide) (by decide) hi hk (by decide)
  refine ⟨_, b', t, okd_cat l (by decide) hz (by decide +kernel), hb, ?_⟩
  have e' : (cMt "str" gJoin (cC (.str "")) (cConsR (cLc (cRng1 (cConsD (cCall m__law_draw 2 0 cb__law_draw_2M (cConsD (cName 1) (cConsD (cC (.int 9)) cNilD)) cNilD) cNilD)) [16] (.nm 16) cYes (cCall m__law_of 2 0 cb__law_of_2M (cConsD (cName 1) (cConsD (cC (.str "abmzqAZ09_ -xy")) cNilD)) cNilD)) cNilR)) ρ [b] = .ok (.d (.str (catS cs))) (ρ.set 16 .emp) [b'] t := e
  rw [ap_set, e']
  simp_arith [setR_ok _ _ _ _ (show 3 < (ρ.set 16 .emp).length by rw [List.length_set]; omega)]
theorem word4 {b : Sl} (h : Bag b) {ρ : List Sl} (hi : ρ[1]? = some (.val (.ob 0))) (hk : 16 < ρ.length) : ∃ d b' t, OkD d ∧ Bag b' ∧ (cSet false 4 (cMt "str" gJoin (cC (.str "")) (cConsR (cLc (cRng1 (cConsD (cCall m__law_draw 2 0 cb__law_draw_2M (cConsD (cName 1) (cConsD (cC (.int 8)) cNilD)) cNilD) cNilD)) [16] (.nm 16) cYes (cCall m__law_of 2 0 cb__law_of_2M (cConsD (cName 1) (cConsD (cC (.str "abcxyz0189")) cNilD)) cNilD)) cNilR))) ρ [b] = .ok .nx ((ρ.set 16 .emp).set 4 (.val d)) [b'] t := by
  obtain ⟨cs, b', t, hb, l, hz, e⟩ := h.word (z := "abcxyz0189") (n := 8) (rest := []) (by decide) (by decide) (by decide) (by decide) hi hk (by decide)
  refine ⟨_, b', t, okd_cat l (by decide) hz (by decide +kernel), hb, ?_⟩
  have e' : (cMt "str" gJoin (cC (.str "")) (cConsR (cLc (cRng1 (cConsD (cCall m__law_draw 2 0 cb__law_draw_2M (cConsD (cName 1) (cConsD (cC (.int 8)) cNilD)) cNilD) cNilD)) [16] (.nm 16) cYes (cCall m__law_of 2 0 cb__law_of_2M (cConsD (cName 1) (cConsD (cC (.str "abcxyz0189")) cNilD)) cNilD)) cNilR)) ρ [b] = .ok (.d (.str (catS cs))) (ρ.set 16 .emp) [b'] t := e
  rw [ap_set, e']
  simp_arith [setR_ok _ _ _ _ (show 4 < (ρ.set 16 .emp).length by rw [List.length_set]; omega)]
theorem word5 {b : Sl} (h : Bag b) {ρ : List Sl} (hi : ρ[1]? = some (.val (.ob 0))) (hk : 16 < ρ.length) : ∃ d b' t, OkD d ∧ Bag b' ∧ (cSet false 5 (cMt "str" gJoin (cC (.str "")) (cConsR (cLc (cRng1 (cConsD (cCall m__law_draw 2 0 cb__law_draw_2M (cConsD (cName 1) (cConsD (cC (.int 9)) cNilD)) cNilD) cNilD)) [16] (.nm 16) cYes (cCall m__law_of 2 0 cb__law_of_2M (cConsD (cName 1) (cConsD (cC (.str "abcdefghijklmnopqrstuvwxyz")) cNilD)) cNilD)) cNilR))) ρ [b] = .ok .nx ((ρ.set 16 .emp).set 5 (.val d)) [b'] t := by
  obtain ⟨cs, b', t, hb, l, hz, e⟩ := h.word (z := "abcdefghijklmnopqrstuvwxyz") (n := 9) (rest := []) (by decide) (by decide) (by decide) (by decide) hi hk (by decide)
  refine ⟨_, b', t, okd_cat l (by decide) hz (by decide +kernel), hb, ?_⟩
  have e' : (cMt "str" gJoin (cC (.str "")) (cConsR (cLc (cRng1 (cConsD (cCall m__law_draw 2 0 cb__law_draw_2M (cConsD (cName 1) (cConsD (cC (.int 9)) cNilD)) cNilD) cNilD)) [16] (.nm 16) cYes (cCall m__law_of 2 0 cb__law_of_2M (cConsD (cName 1) (cConsD (cC (.str "abcdefghijklmnopqrstuvwxyz")) cNilD)) cNilD)) cNilR)) ρ [b] = .ok (.d (.str (catS cs))) (ρ.set 16 .emp) [b'] t := e
  rw [ap_set, e']
  simp_arith [setR_ok _ _ _ _ (show 5 < (ρ.set 16 .emp).length by rw [List.length_set]; omega)]
theorem odd_okd : ∀ d ∈ oddL ++ [.str "", .str "abcdef", .str "abcdefg", .str "aa", .str "a\n", .lst [.str "a"], .tup [.str "a"], .int 3], OkD d := by
  intro d hd
  have st : ∀ z : Str, z.length ≤ 1000 → OkZ z → OkD (.str z) := fun z h1 h2 => .inl ⟨z, rfl, h1, h2⟩
  simp only [oddL, List.cons_append, List.nil_append, List.mem_cons, List.not_mem_nil, or_false] at hd
  rcases hd with rfl | rfl | rfl | rfl | rfl | rfl | rfl | rfl | rfl | rfl | rfl | rfl | rfl | rfl
  all_goals first
    | exact .inr ⟨rfl, fun _ _ => rfl⟩
    | exact st _ (by decide) (by decide +kernel)
theorem isnot_ff : oIs true (.bl false) (.bl false) = some (.d (.bl false)) := rfl
end Lk02

namespace DV
open PySem PySem.Spec PyProof.Rows L2
def par1 (i j : Nat) (ds : List D) : M Fl := fun ρ S => match ds with
  | [d, e] => if i < ρ.length ∧ j < ρ.length then .ok .nx ((ρ.set i (.val d)).set j (.val e)) S false else .bad
  | _ => .bad
theorem ap_par (i j : Nat) (cs : M (List D)) (ρ S : List Sl) : cPar i j cs ρ S = (cs ρ S).bind (par1 i j) := rfl
theorem par1_ok {i j : Nat} {d e : D} {ρ S : List Sl} (h1 : i < ρ.length) (h2 : j < ρ.length) : par1 i j [d, e] ρ S = .ok .nx ((ρ.set i (.val d)).set j (.val e)) S false := if_pos ⟨h1, h2⟩
end DV
namespace Lk02
open PySem PySem.Spec PyProof.Rows L2 DV
local macro_rules
  | `(tactic| simp_arith [$ts,*]) => `(tactic| simp only [ap_def, env0, List.map_cons, List.map_nil, List.length_cons, List.length_nil, List.replicate, Nat.reduceAdd, Nat.reduceSub, List.cons_append, List.nil_append,
    ap_seq, ap_put, ap_D, ap_bin, ap_name, List.getElem?_cons_zero, List.getElem?_cons_succ, nameR_val, nameR_lst, Res.bind_ok, ap_bin1, ap_C, ap_bin2, cont_ob0, cont_int, cont_bl, cont_str, cont_non, cont_ty, cont_lst, cont_kl, cont_tup, cont_kt, cont_fr, cont_env, rd_lst, obind_some,
    two_ok, ev_get_lst, ev_get_tup, atI_nn, Int.reduceLE, Int.reduceToNat, omap_some, lift_some, addt_ok, Bool.or_false, Bool.or_self, ev_add_int, ev_sub_int, toD_d, toD_fr, frz_lst, ap_put1, ap_put2, ap_put3, getP_ob0, putR_at, Int.reduceLT, List.set_cons_succ, List.set_cons_zero,
    seqR_nx, ap_ifS, ap_andB, ap_orB, ap_notB, ap_notR, ap_tst, ev_eq_int, ev_ne_int, tstR_ok, ap_andB1, ap_orB1, decide_false, decide_true, Bool.not_true, Bool.not_false, pickM_f, pickM_t, ap_okB, ap_ifS1, ap_nx, ev_gt_int, ev_ge_int, ev_lt_int, ev_le_int,
    ap_set, ap_set1, setR_ok, ap_blt, ap_consR, ap_nilR, ap_consD, ap_nilD, ap_cons1, ap_consT, ap_blt1, conts_cons, conts_nil, cons2_some, one_ok, ev_gint_int, ev_gabs_int, ev_len_lst, ev_mod_int, ev_fdiv_int, ap_ret, ap_ret1, outR_d, outR_fr, ap_rtR, seqR_rt, endM_rt, endM_nx, Nat.reduceLT,
    ap_call, ap_call1, at_ok, ap_tup, ap_lst, ap_tru, ap_tru1, truR_ok, truD_bl, ap_neg, ap_neg1, negR_ok, ap_for, forR_ok, ap_its, itsR_str, itsR_lst, itsR_kl, itsR_tup, ap_rng1, ap_rng2, ap_part, part1_int, ap_noP, ap_sl, ap_sl1, ap_sl2, sl3_ok (cont_kl _ _ _), sl3_ok (cont_str _ _ _), sl3_ok (cont_lst _ _ _), cut_kl, cut_lst, ap_and, ap_and1, ap_or, ap_or1, truK_t, truK_f, ap_okR, ap_not, ap_not1, notV_ok, ap_sto, setSto_ok', ap_lc, lst1_ok, tup1_ok, isi_non_int, isi_non_bool, isi_non_str, isi_non_list, isi_non_tuple, isi_non_seq, isi_bl_int, isi_bl_bool, isi_bl_str, isi_bl_list, isi_bl_tuple, isi_bl_seq, isi_int_int, isi_int_bool, isi_int_str, isi_int_list, isi_int_tuple, isi_int_seq, isi_str_int, isi_str_bool, isi_str_str, isi_str_list, isi_str_tuple, isi_str_seq, isi_lst_int, isi_lst_bool, isi_lst_str, isi_lst_list, isi_lst_tuple, isi_lst_seq, isi_kl_int, isi_kl_bool, isi_kl_str, isi_kl_list, isi_kl_tuple, isi_kl_seq, isi_tup_int, isi_tup_bool, isi_tup_str, isi_tup_list, isi_tup_tuple, isi_tup_seq, isi_kt_int, isi_kt_bool, isi_kt_str, isi_kt_list, isi_kt_tuple, isi_kt_seq, callR_ok, pick_cons, pick_nil, consO_some, List.append_nil, ap_mt, mt1_str, ap_mt2, mt3_ok, Bool.or_true, Bool.true_or, isF_non, isX_non, isF_bl, isX_bl, isF_int, isX_int, isF_str, isX_str, isF_lst, isX_lst, isF_tup, isX_tup, isF_kt, isX_kt, isF_kl, isX_kl, ev_ne_bl, ev_eq_bl, ev_eq_str, beq_self_eq_true, bne_self_eq_false, ev_len_tup, ev_len_kt, le_line, Nat.reduceLeDiff, $ts,*])
abbrev Sh (ρ : List Sl) : Prop := ∃ s0 s2 s3 s4 s5 s6 s7 s8 s9 s10 s11 s12 s13 s14 s15 s16 : Sl, ρ = (r17 s0 (.val (.ob 0)) s2 s3 s4 s5 s6 s10 s11 s12 s13 s14 s15 s16 s7 s8 s9)
section
variable (s0 s1 s2 s3 s4 s5 s6 s7 s8 s9 s10 s11 s12 s13 s14 s15 s16 : Sl)
theorem none6 {b : Sl} (h : Bag b) : ∃ d b' t, OkD d ∧ Bag b' ∧ (cSet false 6 (cCall m__law_none 2 0 cb__law_none_2M (cConsD (cName 1) (cConsD (cLst (cConsD (cC (.str "")) (cConsD (cC (.str "abcdef")) (cConsD (cC (.str "abcdefg")) (cConsD (cC (.str "aa")) (cConsD (cC (.str "a\n")) (cConsD (cLst (cConsD (cC (.str "a")) cNilD)) (cConsD (cTup (cConsD (cC (.str "a")) cNilD)) (cConsD (cC (.int 3)) cNilD))))))))) cNilD)) cNilD)) (r17 s0 (.val (.ob 0)) s2 s3 s4 s5 s6 s10 s11 s12 s13 s14 s15 s16 s7 s8 s9) [b] = .ok .nx (r17 s0 (.val (.ob 0)) s2 s3 s4 s5 (.val d) s10 s11 s12 s13 s14 s15 s16 s7 s8 s9) [b'] t := by
  obtain ⟨d, b', hd, hb, e⟩ := none_ok h (more := [.str "", .str "abcdef", .str "abcdefg", .str "aa", .str "a\n", .lst [.str "a"], .tup [.str "a"], .int 3]) (by decide) []
  exact ⟨d, b', false, odd_okd d hd, hb, by simp_arith [e]⟩
theorem par_ok {b : Sl} (h : Bag b) : ∃ lo sz b' t, -1000 ≤ lo ∧ lo ≤ 900 ∧ 0 ≤ sz ∧ sz ≤ 90 ∧ Bag b' ∧ (cPar 10 11 (cConsD (cBin oSub (cCall m__law_draw 2 0 cb__law_draw_2M (cConsD (cName 1) (cConsD (cC (.int 9)) cNilD)) cNilD) (cC (.int 4))) (cConsD (cCall m__law_draw 2 0 cb__law_draw_2M (cConsD (cName 1) (cConsD (cC (.int 3)) cNilD)) cNilD) cNilD))) (r17 s0 (.val (.ob 0)) s2 s3 s4 s5 s6 s10 s11 s12 s13 s14 s15 s16 s7 s8 s9) [b] = .ok .nx (r17 s0 (.val (.ob 0)) s2 s3 s4 s5 s6 (.val (.int lo)) (.val (.int sz)) s12 s13 s14 s15 s16 s7 s8 s9) [b'] t := by
  obtain ⟨v, b1, v0, v1, hb1, e1⟩ := h.draw (n := 9) (by decide) (by decide)
  obtain ⟨u, b2, u0, u1, hb2, e2⟩ := hb1.draw (n := 3) (by decide) (by decide)
  have f1 : m__law_draw [.ob 0, .int 9] [b] = .ok (.d (.int v)) [] [b1] false := e1 []
  have f2 : m__law_draw [.ob 0, .int 3] [b1] = .ok (.d (.int u)) [] [b2] false := e2 []
  exact ⟨v - 4, u, b2, false, by omega, by omega, u0, by omega, hb2, by simp_arith [ap_par, f1, f2, par1_ok]⟩
theorem bad_num {d : D} (hd : d ∈ [D.non, .bl true, .bl false, .str "0", .tup [.int 0], .lst [.int 0]]) (l m : Int) (S : List Sl) : m_is_number [d, .int l, .int m] S = .ok (.d (.bl false)) [] S false := by
  simp only [List.mem_cons, List.not_mem_nil, or_false] at hd
  rcases hd with rfl | rfl | rfl | rfl | rfl | rfl
  · exact inum_no l m S rfl fun _ _ => rfl
  · exact inum_bl _ l m S
  · exact inum_bl _ l m S
  · exact inum_no l m S rfl fun _ _ => rfl
  · exact inum_no l m S rfl fun _ _ => rfl
  · exact inum_no l m S rfl fun _ _ => rfl
theorem bad14 {b : Sl} (h : Bag b) : ∃ d b' t, d ∈ [D.non, .bl true, .bl false, .str "0", .tup [.int 0], .lst [.int 0]] ∧ Bag b' ∧ (cSet false 14 (cCall m__law_of 2 0 cb__law_of_2M (cConsD (cName 1) (cConsD (cLst (cConsD (cC .non) (cConsD (cC (.bl true)) (cConsD (cC (.bl false)) (cConsD (cC (.str "0")) (cConsD (cTup (cConsD (cC (.int 0)) cNilD)) (cConsD (cLst (cConsD (cC (.int 0)) cNilD)) cNilD))))))) cNilD)) cNilD)) (r17 s0 (.val (.ob 0)) s2 s3 s4 s5 s6 s10 s11 s12 s13 s14 s15 s16 s7 s8 s9) [b] = .ok .nx (r17 s0 (.val (.ob 0)) s2 s3 s4 s5 s6 s10 s11 s12 s13 (.val d) s15 s16 s7 s8 s9) [b'] t := by
  obtain ⟨d, b', hd, hb, e⟩ := h.of_lst (ds := [D.non, .bl true, .bl false, .str "0", .tup [.int 0], .lst [.int 0]]) (by decide) (by decide)
  have f : m__law_of [.ob 0, .lst [D.non, .bl true, .bl false, .str "0", .tup [.int 0], .lst [.int 0]]] [b] = .ok (.d d) [] [b'] false := e []
  exact ⟨d, b', false, hd, hb, by simp_arith [f]⟩
theorem chk14 {d : D} (hd : d ∈ [D.non, .bl true, .bl false, .str "0", .tup [.int 0], .lst [.int 0]]) (S : List Sl) : (cIfS (cOrB (cTst (cBin (oIs true) (cCall m_is_number 1 0 cb_is_number_1M (cConsD (cName 14) cNilD) cNilD) (cC (.bl false)))) (cTst (cBin (oIs true) (cCall m_is_number 1 1 cb_is_number_1_leastM (cConsD (cName 14) cNilD) (cConsD (cC (.int 0)) cNilD)) (cC (.bl false))))) (cRet (cC (.bl false))) cNx) (r17 s0 (.val (.ob 0)) s2 s3 s4 s5 s6 s10 s11 s12 s13 (.val d) s15 s16 s7 s8 s9) S = .ok .nx (r17 s0 (.val (.ob 0)) s2 s3 s4 s5 s6 s10 s11 s12 s13 (.val d) s15 s16 s7 s8 s9) S false := by
  simp_arith [bad_num hd, isnot_ff]
end
theorem turn0 {b : Sl} (h : Bag b) (ρ : List Sl) (hρ : Sh ρ) : ∃ ρ' b' t, Sh ρ' ∧ Bag b' ∧ (cSeq (cSet false 3 (cMt "str" gJoin (cC (.str "")) (cConsR (cLc (cRng1 (cConsD (cCall m__law_draw 2 0 cb__law_draw_2M (cConsD (cName 1) (cConsD (cC (.int 9)) cNilD)) cNilD) cNilD)) [16] (.nm 16) cYes (cCall m__law_of 2 0 cb__law_of_2M (cConsD (cName 1) (cConsD (cC (.str "abmzqAZ09_ -xy")) cNilD)) cNilD)) cNilR)))
    (cSeq (cSet false 4 (cMt "str" gJoin (cC (.str "")) (cConsR (cLc (cRng1 (cConsD (cCall m__law_draw 2 0 cb__law_draw_2M (cConsD (cName 1) (cConsD (cC (.int 8)) cNilD)) cNilD) cNilD)) [16] (.nm 16) cYes (cCall m__law_of 2 0 cb__law_of_2M (cConsD (cName 1) (cConsD (cC (.str "abcxyz0189")) cNilD)) cNilD)) cNilR)))
    (cSeq (cSet false 5 (cMt "str" gJoin (cC (.str "")) (cConsR (cLc (cRng1 (cConsD (cCall m__law_draw 2 0 cb__law_draw_2M (cConsD (cName 1) (cConsD (cC (.int 9)) cNilD)) cNilD) cNilD)) [16] (.nm 16) cYes (cCall m__law_of 2 0 cb__law_of_2M (cConsD (cName 1) (cConsD (cC (.str "abcdefghijklmnopqrstuvwxyz")) cNilD)) cNilD)) cNilR)))
    (cSeq (cSet false 6 (cCall m__law_none 2 0 cb__law_none_2M (cConsD (cName 1) (cConsD (cLst (cConsD (cC (.str "")) (cConsD (cC (.str "abcdef")) (cConsD (cC (.str "abcdefg")) (cConsD (cC (.str "aa")) (cConsD (cC (.str "a\n")) (cConsD (cLst (cConsD (cC (.str "a")) cNilD)) (cConsD (cTup (cConsD (cC (.str "a")) cNilD)) (cConsD (cC (.int 3)) cNilD))))))))) cNilD)) cNilD))
    (cSeq (cFor (cIts (cLst (cConsD (cName 3) (cConsD (cName 4) (cConsD (cName 5) (cConsD (cName 6) cNilD)))))) (.nm 7) (cSeq (cSet false 8 (cAnd (cBlt (gIsi owT) (cConsR (cName 7) (cConsR (cC (.ty "str")) cNilR))) (cAnd (cChain oLe oLe (cC (.int 1)) (cBlt gLen (cConsR (cName 7) cNilR)) (cC (.int 5))) (cCall m__law_only 2 0 cb__law_only_2M (cConsD (cName 7) (cConsD (cC (.str "abcdefghijklmnopqrstuvwxyz0123456789")) cNilD)) cNilD))))
    (cSeq (cSet false 8 (cAnd (cName 8) (cBin (oEq false) (cLc (cRng1 (cConsD (cBlt gLen (cConsR (cName 7) cNilR)) cNilD)) [16] (.nm 16) (cTst (cBin (oIn false) (cBin oGet (cName 7) (cName 16)) (cSl oCut (cName 7) cNoP (cPart (cName 16))))) (cName 16)) (cLst cNilD))))
    (cSeq (cSet false 9 (cAnd (cBlt (gIsi owT) (cConsR (cName 7) (cConsR (cC (.ty "str")) cNilR))) (cAnd (cChain oLe oLe (cC (.int 1)) (cBlt gLen (cConsR (cName 7) cNilR)) (cC (.int 6))) (cCall m__law_only 2 0 cb__law_only_2M (cConsD (cName 7) (cConsD (cC (.str "abcdefghijklmnopqrstuvwxyz")) cNilD)) cNilD))))
    (cIfS (cNotB (cTru (cCall (m__law_same 6) 2 0 cb__law_same_2M (cConsD (cLst (cConsD (cCall m_is_symbols 1 0 cb_is_symbols_1M (cConsD (cName 7) cNilD) cNilD) (cConsD (cCall m_is_symbols 0 1 cb_is_symbols_0_valueM cNilD (cConsD (cName 7) cNilD)) (cConsD (cCall m_is_name 1 0 cb_is_name_1M (cConsD (cName 7) cNilD) cNilD) (cConsD (cCall m_is_name 0 1 cb_is_name_0_valueM cNilD (cConsD (cName 7) cNilD)) cNilD))))) (cConsD (cLst (cConsD (cName 8) (cConsD (cName 8) (cConsD (cName 9) (cConsD (cName 9) cNilD))))) cNilD)) cNilD))) (cRet (cC (.bl false))) cNx)))))
    (cSeq (cPar 10 11 (cConsD (cBin oSub (cCall m__law_draw 2 0 cb__law_draw_2M (cConsD (cName 1) (cConsD (cC (.int 9)) cNilD)) cNilD) (cC (.int 4))) (cConsD (cCall m__law_draw 2 0 cb__law_draw_2M (cConsD (cName 1) (cConsD (cC (.int 3)) cNilD)) cNilD) cNilD)))
    (cSeq (cFor (cRng2 (cConsD (cBin oSub (cName 10) (cC (.int 2))) (cConsD (cBin oAdd (cBin oAdd (cName 10) (cName 11)) (cC (.int 3))) cNilD))) (.nm 12) (cSeq (cSet false 13 (cChain oLe oLe (cName 10) (cName 12) (cBin oAdd (cName 10) (cName 11))))
    (cIfS (cNotB (cTru (cCall (m__law_same 6) 2 0 cb__law_same_2M (cConsD (cLst (cConsD (cCall m_is_number 1 2 cb_is_number_1_least_mostM (cConsD (cName 12) cNilD) (cConsD (cName 10) (cConsD (cBin oAdd (cName 10) (cName 11)) cNilD))) (cConsD (cCall m_is_number 0 2 cb_is_number_0_most_valueM cNilD (cConsD (cName 12) (cConsD (cName 10) cNilD))) (cConsD (cCall m_is_number 1 1 cb_is_number_1_leastM (cConsD (cName 12) cNilD) (cConsD (cName 10) cNilD)) cNilD)))) (cConsD (cLst (cConsD (cName 13) (cConsD (cBin oLe (cName 10) (cName 12)) (cConsD (cBin oLe (cName 10) (cName 12)) cNilD)))) cNilD)) cNilD))) (cRet (cC (.bl false))) cNx)))
    (cSeq (cSet false 14 (cCall m__law_of 2 0 cb__law_of_2M (cConsD (cName 1) (cConsD (cLst (cConsD (cC .non) (cConsD (cC (.bl true)) (cConsD (cC (.bl false)) (cConsD (cC (.str "0")) (cConsD (cTup (cConsD (cC (.int 0)) cNilD)) (cConsD (cLst (cConsD (cC (.int 0)) cNilD)) cNilD))))))) cNilD)) cNilD))
    (cIfS (cOrB (cTst (cBin (oIs true) (cCall m_is_number 1 0 cb_is_number_1M (cConsD (cName 14) cNilD) cNilD) (cC (.bl false)))) (cTst (cBin (oIs true) (cCall m_is_number 1 1 cb_is_number_1_leastM (cConsD (cName 14) cNilD) (cConsD (cC (.int 0)) cNilD)) (cC (.bl false))))) (cRet (cC (.bl false))) cNx))))))))) ρ [b] = .ok .nx ρ' [b'] t := by
  obtain ⟨s0, s2, s3, s4, s5, s6, s7, s8, s9, s10, s11, s12, s13, s14, s15, s16, rfl⟩ := hρ
  obtain ⟨d3, b3, t3, k3, h3, e3⟩ := word3 h (ρ := (r17 s0 (.val (.ob 0)) s2 s3 s4 s5 s6 s10 s11 s12 s13 s14 s15 s16 s7 s8 s9)) rfl (by simp)
  have e3 : (cSet false 3 (cMt "str" gJoin (cC (.str "")) (cConsR (cLc (cRng1 (cConsD (cCall m__law_draw 2 0 cb__law_draw_2M (cConsD (cName 1) (cConsD (cC (.int 9)) cNilD)) cNilD) cNilD)) [16] (.nm 16) cYes (cCall m__law_of 2 0 cb__law_of_2M (cConsD (cName 1) (cConsD (cC (.str "abmzqAZ09_ -xy")) cNilD)) cNilD)) cNilR))) (r17 s0 (.val (.ob 0)) s2 s3 s4 s5 s6 s10 s11 s12 s13 s14 s15 s16 s7 s8 s9) [b] = .ok .nx (r17 s0 (.val (.ob 0)) s2 (.val d3) s4 s5 s6 s10 s11 s12 s13 s14 s15 .emp s7 s8 s9) [b3] t3 := e3
  obtain ⟨d4, b4, t4, k4, h4, e4⟩ := word4 h3 (ρ := (r17 s0 (.val (.ob 0)) s2 (.val d3) s4 s5 s6 s10 s11 s12 s13 s14 s15 .emp s7 s8 s9)) rfl (by simp)
  have e4 : (cSet false 4 (cMt "str" gJoin (cC (.str "")) (cConsR (cLc (cRng1 (cConsD (cCall m__law_draw 2 0 cb__law_draw_2M (cConsD (cName 1) (cConsD (cC (.int 8)) cNilD)) cNilD) cNilD)) [16] (.nm 16) cYes (cCall m__law_of 2 0 cb__law_of_2M (cConsD (cName 1) (cConsD (cC (.str "abcxyz0189")) cNilD)) cNilD)) cNilR))) (r17 s0 (.val (.ob 0)) s2 (.val d3) s4 s5 s6 s10 s11 s12 s13 s14 s15 .emp s7 s8 s9) [b3] = .ok .nx (r17 s0 (.val (.ob 0)) s2 (.val d3) (.val d4) s5 s6 s10 s11 s12 s13 s14 s15 .emp s7 s8 s9) [b4] t4 := e4
  obtain ⟨d5, b5, t5, k5, h5, e5⟩ := word5 h4 (ρ := (r17 s0 (.val (.ob 0)) s2 (.val d3) (.val d4) s5 s6 s10 s11 s12 s13 s14 s15 .emp s7 s8 s9)) rfl (by simp)
  have e5 : (cSet false 5 (cMt "str" gJoin (cC (.str "")) (cConsR (cLc (cRng1 (cConsD (cCall m__law_draw 2 0 cb__law_draw_2M (cConsD (cName 1) (cConsD (cC (.int 9)) cNilD)) cNilD) cNilD)) [16] (.nm 16) cYes (cCall m__law_of 2 0 cb__law_of_2M (cConsD (cName 1) (cConsD (cC (.str "abcdefghijklmnopqrstuvwxyz")) cNilD)) cNilD)) cNilR))) (r17 s0 (.val (.ob 0)) s2 (.val d3) (.val d4) s5 s6 s10 s11 s12 s13 s14 s15 .emp s7 s8 s9) [b4] = .ok .nx (r17 s0 (.val (.ob 0)) s2 (.val d3) (.val d4) (.val d5) s6 s10 s11 s12 s13 s14 s15 .emp s7 s8 s9) [b5] t5 := e5
  obtain ⟨d6, b6, t6, k6, h6, e6⟩ := none6 s0 s2 (.val d3) (.val d4) (.val d5) s6 s7 s8 s9 s10 s11 s12 s13 s14 s15 .emp h5
  rw [ap_seq, e3, seqR_nx, ap_seq, e4, seqR_nx, ap_seq, e5, seqR_nx, ap_seq, e6, seqR_nx, ap_seq]
  obtain ⟨x7, x8, x9, x16, e7⟩ := inner s0 (.val (.ob 0)) s2 s7 s8 s9 s10 s11 s12 s13 s14 s15 .emp k3 k4 k5 k6 [b6]
  rw [e7, seqR_nx, ap_seq]
  obtain ⟨lo, sz, b8, t8, l1, l2, l3, l4, h8, e8⟩ := par_ok s0 s2 (.val d3) (.val d4) (.val d5) (.val d6) x7 x8 x9 s10 s11 s12 s13 s14 s15 x16 h6
  rw [e8, seqR_nx, ap_seq]
  obtain ⟨x12, x13, e9⟩ := numbers s0 (.val (.ob 0)) s2 (.val d3) (.val d4) (.val d5) (.val d6) x7 x8 x9 s12 s13 s14 s15 x16 lo sz l1 l2 l3 l4 [b8]
  rw [e9, seqR_nx, ap_seq]
  obtain ⟨d, b10, t10, hd, h10, e10⟩ := bad14 s0 s2 (.val d3) (.val d4) (.val d5) (.val d6) x7 x8 x9 (.val (.int lo)) (.val (.int sz)) x12 x13 s14 s15 x16 h8
  rw [e10, seqR_nx]
  exact ⟨_, b10, false, ⟨_, _, _, _, _, _, _, _, _, _, _, _, _, _, _, _, rfl⟩, h10, chk14 s0 s2 (.val d3) (.val d4) (.val d5) (.val d6) x7 x8 x9 (.val (.int lo)) (.val (.int sz)) x12 x13 s15 x16 hd [b10]⟩
theorem outer {b : Sl} (h : Bag b) (ρ : List Sl) (hρ : Sh ρ) : ∃ ρ' b', Sh ρ' ∧ Bag b' ∧ (cFor (cRng1 (cConsD (cC (.int 6)) cNilD)) (.nm 2) (cSeq (cSet false 3 (cMt "str" gJoin (cC (.str "")) (cConsR (cLc (cRng1 (cConsD (cCall m__law_draw 2 0 cb__law_draw_2M (cConsD (cName 1) (cConsD (cC (.int 9)) cNilD)) cNilD) cNilD)) [16] (.nm 16) cYes (cCall m__law_of 2 0 cb__law_of_2M (cConsD (cName 1) (cConsD (cC (.str "abmzqAZ09_ -xy")) cNilD)) cNilD)) cNilR)))
    (cSeq (cSet false 4 (cMt "str" gJoin (cC (.str "")) (cConsR (cLc (cRng1 (cConsD (cCall m__law_draw 2 0 cb__law_draw_2M (cConsD (cName 1) (cConsD (cC (.int 8)) cNilD)) cNilD) cNilD)) [16] (.nm 16) cYes (cCall m__law_of 2 0 cb__law_of_2M (cConsD (cName 1) (cConsD (cC (.str "abcxyz0189")) cNilD)) cNilD)) cNilR)))
    (cSeq (cSet false 5 (cMt "str" gJoin (cC (.str "")) (cConsR (cLc (cRng1 (cConsD (cCall m__law_draw 2 0 cb__law_draw_2M (cConsD (cName 1) (cConsD (cC (.int 9)) cNilD)) cNilD) cNilD)) [16] (.nm 16) cYes (cCall m__law_of 2 0 cb__law_of_2M (cConsD (cName 1) (cConsD (cC (.str "abcdefghijklmnopqrstuvwxyz")) cNilD)) cNilD)) cNilR)))
    (cSeq (cSet false 6 (cCall m__law_none 2 0 cb__law_none_2M (cConsD (cName 1) (cConsD (cLst (cConsD (cC (.str "")) (cConsD (cC (.str "abcdef")) (cConsD (cC (.str "abcdefg")) (cConsD (cC (.str "aa")) (cConsD (cC (.str "a\n")) (cConsD (cLst (cConsD (cC (.str "a")) cNilD)) (cConsD (cTup (cConsD (cC (.str "a")) cNilD)) (cConsD (cC (.int 3)) cNilD))))))))) cNilD)) cNilD))
    (cSeq (cFor (cIts (cLst (cConsD (cName 3) (cConsD (cName 4) (cConsD (cName 5) (cConsD (cName 6) cNilD)))))) (.nm 7) (cSeq (cSet false 8 (cAnd (cBlt (gIsi owT) (cConsR (cName 7) (cConsR (cC (.ty "str")) cNilR))) (cAnd (cChain oLe oLe (cC (.int 1)) (cBlt gLen (cConsR (cName 7) cNilR)) (cC (.int 5))) (cCall m__law_only 2 0 cb__law_only_2M (cConsD (cName 7) (cConsD (cC (.str "abcdefghijklmnopqrstuvwxyz0123456789")) cNilD)) cNilD))))
    (cSeq (cSet false 8 (cAnd (cName 8) (cBin (oEq false) (cLc (cRng1 (cConsD (cBlt gLen (cConsR (cName 7) cNilR)) cNilD)) [16] (.nm 16) (cTst (cBin (oIn false) (cBin oGet (cName 7) (cName 16)) (cSl oCut (cName 7) cNoP (cPart (cName 16))))) (cName 16)) (cLst cNilD))))
    (cSeq (cSet false 9 (cAnd (cBlt (gIsi owT) (cConsR (cName 7) (cConsR (cC (.ty "str")) cNilR))) (cAnd (cChain oLe oLe (cC (.int 1)) (cBlt gLen (cConsR (cName 7) cNilR)) (cC (.int 6))) (cCall m__law_only 2 0 cb__law_only_2M (cConsD (cName 7) (cConsD (cC (.str "abcdefghijklmnopqrstuvwxyz")) cNilD)) cNilD))))
    (cIfS (cNotB (cTru (cCall (m__law_same 6) 2 0 cb__law_same_2M (cConsD (cLst (cConsD (cCall m_is_symbols 1 0 cb_is_symbols_1M (cConsD (cName 7) cNilD) cNilD) (cConsD (cCall m_is_symbols 0 1 cb_is_symbols_0_valueM cNilD (cConsD (cName 7) cNilD)) (cConsD (cCall m_is_name 1 0 cb_is_name_1M (cConsD (cName 7) cNilD) cNilD) (cConsD (cCall m_is_name 0 1 cb_is_name_0_valueM cNilD (cConsD (cName 7) cNilD)) cNilD))))) (cConsD (cLst (cConsD (cName 8) (cConsD (cName 8) (cConsD (cName 9) (cConsD (cName 9) cNilD))))) cNilD)) cNilD))) (cRet (cC (.bl false))) cNx)))))
    (cSeq (cPar 10 11 (cConsD (cBin oSub (cCall m__law_draw 2 0 cb__law_draw_2M (cConsD (cName 1) (cConsD (cC (.int 9)) cNilD)) cNilD) (cC (.int 4))) (cConsD (cCall m__law_draw 2 0 cb__law_draw_2M (cConsD (cName 1) (cConsD (cC (.int 3)) cNilD)) cNilD) cNilD)))
    (cSeq (cFor (cRng2 (cConsD (cBin oSub (cName 10) (cC (.int 2))) (cConsD (cBin oAdd (cBin oAdd (cName 10) (cName 11)) (cC (.int 3))) cNilD))) (.nm 12) (cSeq (cSet false 13 (cChain oLe oLe (cName 10) (cName 12) (cBin oAdd (cName 10) (cName 11))))
    (cIfS (cNotB (cTru (cCall (m__law_same 6) 2 0 cb__law_same_2M (cConsD (cLst (cConsD (cCall m_is_number 1 2 cb_is_number_1_least_mostM (cConsD (cName 12) cNilD) (cConsD (cName 10) (cConsD (cBin oAdd (cName 10) (cName 11)) cNilD))) (cConsD (cCall m_is_number 0 2 cb_is_number_0_most_valueM cNilD (cConsD (cName 12) (cConsD (cName 10) cNilD))) (cConsD (cCall m_is_number 1 1 cb_is_number_1_leastM (cConsD (cName 12) cNilD) (cConsD (cName 10) cNilD)) cNilD)))) (cConsD (cLst (cConsD (cName 13) (cConsD (cBin oLe (cName 10) (cName 12)) (cConsD (cBin oLe (cName 10) (cName 12)) cNilD)))) cNilD)) cNilD))) (cRet (cC (.bl false))) cNx)))
    (cSeq (cSet false 14 (cCall m__law_of 2 0 cb__law_of_2M (cConsD (cName 1) (cConsD (cLst (cConsD (cC .non) (cConsD (cC (.bl true)) (cConsD (cC (.bl false)) (cConsD (cC (.str "0")) (cConsD (cTup (cConsD (cC (.int 0)) cNilD)) (cConsD (cLst (cConsD (cC (.int 0)) cNilD)) cNilD))))))) cNilD)) cNilD))
    (cIfS (cOrB (cTst (cBin (oIs true) (cCall m_is_number 1 0 cb_is_number_1M (cConsD (cName 14) cNilD) cNilD) (cC (.bl false)))) (cTst (cBin (oIs true) (cCall m_is_number 1 1 cb_is_number_1_leastM (cConsD (cName 14) cNilD) (cConsD (cC (.int 0)) cNilD)) (cC (.bl false))))) (cRet (cC (.bl false))) cNx)))))))))) ρ [b] = .ok .nx ρ' [b'] false := by
  have r1 : ∀ ρ S, rng1R [.int 6] ρ S = .ok (rangeD 0 (6 : Int).toNat) ρ S false := fun ρ S => rng1R_ok (by decide) (by decide)
  have e : (cRng1 (cConsD (cC (.int 6)) cNilD)) ρ [b] = .ok (rangeD 0 (6 : Int).toNat) ρ [b] false := by simp_arith [r1]
  rw [ap_for, e, forR_ok]
  have loop := forM_nx (g := .nm 2) (b := (cSeq (cSet false 3 (cMt "str" gJoin (cC (.str "")) (cConsR (cLc (cRng1 (cConsD (cCall m__law_draw 2 0 cb__law_draw_2M (cConsD (cName 1) (cConsD (cC (.int 9)) cNilD)) cNilD) cNilD)) [16] (.nm 16) cYes (cCall m__law_of 2 0 cb__law_of_2M (cConsD (cName 1) (cConsD (cC (.str "abmzqAZ09_ -xy")) cNilD)) cNilD)) cNilR)))
    (cSeq (cSet false 4 (cMt "str" gJoin (cC (.str "")) (cConsR (cLc (cRng1 (cConsD (cCall m__law_draw 2 0 cb__law_draw_2M (cConsD (cName 1) (cConsD (cC (.int 8)) cNilD)) cNilD) cNilD)) [16] (.nm 16) cYes (cCall m__law_of 2 0 cb__law_of_2M (cConsD (cName 1) (cConsD (cC (.str "abcxyz0189")) cNilD)) cNilD)) cNilR)))
    (cSeq (cSet false 5 (cMt "str" gJoin (cC (.str "")) (cConsR (cLc (cRng1 (cConsD (cCall m__law_draw 2 0 cb__law_draw_2M (cConsD (cName 1) (cConsD (cC (.int 9)) cNilD)) cNilD) cNilD)) [16] (.nm 16) cYes (cCall m__law_of 2 0 cb__law_of_2M (cConsD (cName 1) (cConsD (cC (.str "abcdefghijklmnopqrstuvwxyz")) cNilD)) cNilD)) cNilR)))
    (cSeq (cSet false 6 (cCall m__law_none 2 0 cb__law_none_2M (cConsD (cName 1) (cConsD (cLst (cConsD (cC (.str "")) (cConsD (cC (.str "abcdef")) (cConsD (cC (.str "abcdefg")) (cConsD (cC (.str "aa")) (cConsD (cC (.str "a\n")) (cConsD (cLst (cConsD (cC (.str "a")) cNilD)) (cConsD (cTup (cConsD (cC (.str "a")) cNilD)) (cConsD (cC (.int 3)) cNilD))))))))) cNilD)) cNilD))
    (cSeq (cFor (cIts (cLst (cConsD (cName 3) (cConsD (cName 4) (cConsD (cName 5) (cConsD (cName 6) cNilD)))))) (.nm 7) (cSeq (cSet false 8 (cAnd (cBlt (gIsi owT) (cConsR (cName 7) (cConsR (cC (.ty "str")) cNilR))) (cAnd (cChain oLe oLe (cC (.int 1)) (cBlt gLen (cConsR (cName 7) cNilR)) (cC (.int 5))) (cCall m__law_only 2 0 cb__law_only_2M (cConsD (cName 7) (cConsD (cC (.str "abcdefghijklmnopqrstuvwxyz0123456789")) cNilD)) cNilD))))
    (cSeq (cSet false 8 (cAnd (cName 8) (cBin (oEq false) (cLc (cRng1 (cConsD (cBlt gLen (cConsR (cName 7) cNilR)) cNilD)) [16] (.nm 16) (cTst (cBin (oIn false) (cBin oGet (cName 7) (cName 16)) (cSl oCut (cName 7) cNoP (cPart (cName 16))))) (cName 16)) (cLst cNilD))))
    (cSeq (cSet false 9 (cAnd (cBlt (gIsi owT) (cConsR (cName 7) (cConsR (cC (.ty "str")) cNilR))) (cAnd (cChain oLe oLe (cC (.int 1)) (cBlt gLen (cConsR (cName 7) cNilR)) (cC (.int 6))) (cCall m__law_only 2 0 cb__law_only_2M (cConsD (cName 7) (cConsD (cC (.str "abcdefghijklmnopqrstuvwxyz")) cNilD)) cNilD))))
    (cIfS (cNotB (cTru (cCall (m__law_same 6) 2 0 cb__law_same_2M (cConsD (cLst (cConsD (cCall m_is_symbols 1 0 cb_is_symbols_1M (cConsD (cName 7) cNilD) cNilD) (cConsD (cCall m_is_symbols 0 1 cb_is_symbols_0_valueM cNilD (cConsD (cName 7) cNilD)) (cConsD (cCall m_is_name 1 0 cb_is_name_1M (cConsD (cName 7) cNilD) cNilD) (cConsD (cCall m_is_name 0 1 cb_is_name_0_valueM cNilD (cConsD (cName 7) cNilD)) cNilD))))) (cConsD (cLst (cConsD (cName 8) (cConsD (cName 8) (cConsD (cName 9) (cConsD (cName 9) cNilD))))) cNilD)) cNilD))) (cRet (cC (.bl false))) cNx)))))
    (cSeq (cPar 10 11 (cConsD (cBin oSub (cCall m__law_draw 2 0 cb__law_draw_2M (cConsD (cName 1) (cConsD (cC (.int 9)) cNilD)) cNilD) (cC (.int 4))) (cConsD (cCall m__law_draw 2 0 cb__law_draw_2M (cConsD (cName 1) (cConsD (cC (.int 3)) cNilD)) cNilD) cNilD)))
    (cSeq (cFor (cRng2 (cConsD (cBin oSub (cName 10) (cC (.int 2))) (cConsD (cBin oAdd (cBin oAdd (cName 10) (cName 11)) (cC (.int 3))) cNilD))) (.nm 12) (cSeq (cSet false 13 (cChain oLe oLe (cName 10) (cName 12) (cBin oAdd (cName 10) (cName 11))))
    (cIfS (cNotB (cTru (cCall (m__law_same 6) 2 0 cb__law_same_2M (cConsD (cLst (cConsD (cCall m_is_number 1 2 cb_is_number_1_least_mostM (cConsD (cName 12) cNilD) (cConsD (cName 10) (cConsD (cBin oAdd (cName 10) (cName 11)) cNilD))) (cConsD (cCall m_is_number 0 2 cb_is_number_0_most_valueM cNilD (cConsD (cName 12) (cConsD (cName 10) cNilD))) (cConsD (cCall m_is_number 1 1 cb_is_number_1_leastM (cConsD (cName 12) cNilD) (cConsD (cName 10) cNilD)) cNilD)))) (cConsD (cLst (cConsD (cName 13) (cConsD (cBin oLe (cName 10) (cName 12)) (cConsD (cBin oLe (cName 10) (cName 12)) cNilD)))) cNilD)) cNilD))) (cRet (cC (.bl false))) cNx)))
    (cSeq (cSet false 14 (cCall m__law_of 2 0 cb__law_of_2M (cConsD (cName 1) (cConsD (cLst (cConsD (cC .non) (cConsD (cC (.bl true)) (cConsD (cC (.bl false)) (cConsD (cC (.str "0")) (cConsD (cTup (cConsD (cC (.int 0)) cNilD)) (cConsD (cLst (cConsD (cC (.int 0)) cNilD)) cNilD))))))) cNilD)) cNilD))
    (cIfS (cOrB (cTst (cBin (oIs true) (cCall m_is_number 1 0 cb_is_number_1M (cConsD (cName 14) cNilD) cNilD) (cC (.bl false)))) (cTst (cBin (oIs true) (cCall m_is_number 1 1 cb_is_number_1_leastM (cConsD (cName 14) cNilD) (cConsD (cC (.int 0)) cNilD)) (cC (.bl false))))) (cRet (cC (.bl false))) cNx)))))))))) (fun ρ S' => Sh ρ ∧ ∃ b', Bag b' ∧ S' = [b']) (rangeD 0 (6 : Int).toNat) ρ [b] (by
    rintro d hd ρ S1 ⟨⟨s0, s2, s3, s4, s5, s6, s7, s8, s9, s10, s11, s12, s13, s14, s15, s16, rfl⟩, b', hb, rfl⟩
    obtain ⟨ρ', b2, t, k, hb2, e2⟩ := turn0 hb (r17 s0 (.val (.ob 0)) (.val d) s3 s4 s5 s6 s10 s11 s12 s13 s14 s15 s16 s7 s8 s9) ⟨_, _, _, _, _, _, _, _, _, _, _, _, _, _, _, _, rfl⟩
    exact ⟨_, ρ', [b2], t, rfl, e2, k, b2, hb2, rfl⟩) ⟨hρ, b, h, rfl⟩
  obtain ⟨ρ', S', e2, k, b', hb, rfl⟩ := loop
  exact ⟨ρ', b', k, hb, e2⟩
theorem pow30 : oPow (.int 10) (.int 30) = some (.d (.int 1000000000000000000000000000000)) := by
  rw [ev_pow_int (by decide) (by decide) (by decide)]
  rfl
theorem plain : ∀ ns : List Int, ns.length ≤ 63 → ∃ ρ S t, m_law [.kl (ns.map .int)] [] = .ok (.d (.bl true)) ρ S t := by
  intro ns _
  obtain ⟨b, hb, e0⟩ := open_ok ns []
  have e0 : m__law_open [.kl (ns.map .int)] [] = .ok (.fr (.lst b)) [] [] false := e0
  have e1 : (cSto 1 (cCall m__law_open 1 0 cb__law_open_1M (cConsD (cName 0) cNilD) cNilD)) ([.val (.kl (ns.map .int)), .emp, .emp, .emp, .emp, .emp, .emp, .emp, .emp, .emp, .emp, .emp, .emp, .emp, .emp, .emp, .emp]) [] = .ok .nx ([.val (.kl (ns.map .int)), .val (.ob 0), .emp, .emp, .emp, .emp, .emp, .emp, .emp, .emp, .emp, .emp, .emp, .emp, .emp, .emp, .emp]) [.lst b] false := by
    simp_arith [e0]
  obtain ⟨ρ', b', ⟨s0, s2, s3, s4, s5, s6, s7, s8, s9, s10, s11, s12, s13, s14, s15, s16, rfl⟩, hb', e2⟩ := outer hb [.val (.kl (ns.map .int)), .val (.ob 0), .emp, .emp, .emp, .emp, .emp, .emp, .emp, .emp, .emp, .emp, .emp, .emp, .emp, .emp, .emp] ⟨_, _, _, _, _, _, _, _, _, _, _, _, _, _, _, _, rfl⟩
  have q1 := same_lst (n := 5) (xs := [.bl true, .bl false, .bl true, .bl false]) (ys := [.bl true, .bl false, .bl true, .bl false]) (.cons (same_bl 4 _) (.cons (same_bl 4 _) (.cons (same_bl 4 _) (.cons (same_bl 4 _) .nil)))) (by simp) [b']
  have q2 := same_lst (n := 5) (xs := [.int 1000000000000000000000000000000, .kt [.str "late", .str "early"], .str "endless", .str "never", .str "calm"]) (ys := [.int 1000000000000000000000000000000, .tup [.str "late", .str "early"], .str "endless", .str "never", .str "calm"])
    (.cons (same_int 4 _) (.cons (same_kt (n := 4) (.cons (same_str 3 _) (.cons (same_str 3 _) .nil)) (by simp)) (.cons (same_str 4 _) (.cons (same_str 4 _) (.cons (same_str 4 _) .nil))))) (by simp) [b']
  have e3 : (cSet false 15 (cLst (cConsD (cCall m_is_number 1 0 cb_is_number_1M (cConsD (cBin oPow (cC (.int 10)) (cC (.int 30))) cNilD) cNilD) (cConsD (cCall m_is_number 1 0 cb_is_number_1M (cConsD (cBin oAdd (cBin oPow (cC (.int 10)) (cC (.int 30))) (cC (.int 1))) cNilD) cNilD) (cConsD (cCall m_is_number 1 0 cb_is_number_1M (cConsD (cNeg (cBin oPow (cC (.int 10)) (cC (.int 30)))) cNilD) cNilD) (cConsD (cCall m_is_number 1 0 cb_is_number_1M (cConsD (cBin oSub (cNeg (cBin oPow (cC (.int 10)) (cC (.int 30)))) (cC (.int 1))) cNilD) cNilD) cNilD)))))) (r17 s0 (.val (.ob 0)) s2 s3 s4 s5 s6 s10 s11 s12 s13 s14 s15 s16 s7 s8 s9) [b'] = .ok .nx (r17 s0 (.val (.ob 0)) s2 s3 s4 s5 s6 s10 s11 s12 s13 s14 (.val (.lst [.bl true, .bl false, .bl true, .bl false])) s16 s7 s8 s9) [b'] false := by
    simp_arith [pow30, inum_int, Int.reduceAdd, Int.reduceNeg, Int.reduceSub, Bool.and_true, Bool.and_false, Bool.true_and, Bool.false_and]
  have e4 : (cIfS (cNotB (cTru (cCall (m__law_same 6) 2 0 cb__law_same_2M (cConsD (cName 15) (cConsD (cLst (cConsD (cC (.bl true)) (cConsD (cC (.bl false)) (cConsD (cC (.bl true)) (cConsD (cC (.bl false)) cNilD))))) cNilD)) cNilD))) (cRet (cC (.bl false))) cNx) (r17 s0 (.val (.ob 0)) s2 s3 s4 s5 s6 s10 s11 s12 s13 s14 (.val (.lst [.bl true, .bl false, .bl true, .bl false])) s16 s7 s8 s9) [b'] = .ok .nx (r17 s0 (.val (.ob 0)) s2 s3 s4 s5 s6 s10 s11 s12 s13 s14 (.val (.lst [.bl true, .bl false, .bl true, .bl false])) s16 s7 s8 s9) [b'] false := by simp_arith [msame_eq, q1]
  have e5 : (cRet (cCall (m__law_same 6) 2 0 cb__law_same_2M (cConsD (cLst (cConsD (cC (.int 1000000000000000000000000000000)) (cConsD (cC (.kt [.str "late", .str "early"])) (cConsD (cC (.str "endless")) (cConsD (cC (.str "never")) (cConsD (cC (.str "calm")) cNilD)))))) (cConsD (cLst (cConsD (cBin oPow (cC (.int 10)) (cC (.int 30))) (cConsD (cTup (cConsD (cC (.str "late")) (cConsD (cC (.str "early")) cNilD))) (cConsD (cC (.str "endless")) (cConsD (cC (.str "never")) (cConsD (cC (.str "calm")) cNilD)))))) cNilD)) cNilD)) (r17 s0 (.val (.ob 0)) s2 s3 s4 s5 s6 s10 s11 s12 s13 s14 (.val (.lst [.bl true, .bl false, .bl true, .bl false])) s16 s7 s8 s9) [b'] = .ok (.rt (.d (.bl true))) (r17 s0 (.val (.ob 0)) s2 s3 s4 s5 s6 s10 s11 s12 s13 s14 (.val (.lst [.bl true, .bl false, .bl true, .bl false])) s16 s7 s8 s9) [b'] false := by simp_arith [msame_eq, pow30, q2]
  refine ⟨[], [b'], false, ?_⟩
  show endM (c_law (env0 17 [.kl (ns.map .int)]) []) = _
  unfold c_law
  rw [ap_seq]
  show endM (seqR _ ((cSto 1 (cCall m__law_open 1 0 cb__law_open_1M (cConsD (cName 0) cNilD) cNilD)) ([.val (.kl (ns.map .int)), .emp, .emp, .emp, .emp, .emp, .emp, .emp, .emp, .emp, .emp, .emp, .emp, .emp, .emp, .emp, .emp]) [])) = _
  rw [e1, seqR_nx, ap_seq, e2, seqR_nx, ap_seq, e3, seqR_nx, ap_seq, e4, seqR_nx, e5]
  rfl
end Lk02

namespace Lk02
open PySem PySem.Spec PyProof.Rows L2 DV
theorem run (w : World) : HandSHeadRun.RunEq R (PySem.W.view R.prog [19]) hk ob 1000 nms w := by
  intro os
  kernel_rfl
theorem facts {P : Program} {wd : World} {K : PySem.W.Frag} {h : Heap} {mg : Str → Option Value} (X : K.In h) (G : h.Ns mainGlobals mg) (c : SaysX chk fnl K) :
    ∃ (fa : Addr) (fd : FuncData), mg "law" = some (.ref fa) ∧ (∀ (s : Shared) (u : Value), BindsTo s fd ⟨[u], []⟩ [("_law_script", u)]) ∧ ∀ base : Heap, FnOk P wd K mg base (L2.CX P wd) 7 fa fd ["_law_script"] (spM (Gk K) 1 m_law) := by
  obtain ⟨fd, F, _⟩ := all_ok (P := P) (wd := wd) X G c h
  refine ⟨He.ga K "law", fd, (tx_of X G c.chk).g_law, fun s u => (FunD.bindsA (ps := ["_law_script"]) F fun _ _ _ _ _ _ us hl => match us, hl with | [_], _ => rfl) s [u] rfl, fun base => ?_⟩
  obtain ⟨fd2, F2, G2⟩ := all_ok (P := P) (wd := wd) X G c base
  obtain rfl := funD_same F F2
  exact G2
end Lk02
open PySem PySem.W PySem.Calls PyProof.Rows
theorem PySem.Challenge.cw_rightfrom_k02_numbers_names_and_symbols_holds : PySem.Challenge.rw_rightfrom_k02_numbers_names_and_symbols.Holds := by
  w_on; o_law
  refine HandSHeadRun.head_any (r := OpenLaw.row PySem.Challenge.rw_rightfrom_k02_numbers_names_and_symbols) (q := view (OpenLaw.row PySem.Challenge.rw_rightfrom_k02_numbers_names_and_symbols).prog [19]) (H := Lk02.hk) (ob := Lk02.ob) (M := 1000) (loose := Lk02.nms) (d := HandSHeadRun.topDef (OpenLaw.row PySem.Challenge.rw_rightfrom_k02_numbers_names_and_symbols).prog 19) (kwd := []) Lk02.ob_eq
    (by kernel_rfl) (fun s => by kernel_rfl) Lk02.run (by kernel_rfl) (by kernel_rfl) (by kernel_rfl) (by rfl) (by first | assumption | decide +kernel) (by decide +kernel) ⟨rfl, rfl, rfl, rfl, rfl, by decide +kernel⟩ ?hw ?hc
  case hw => w_witness2
  case hc =>
    refine DV.walk_dv (law := PySem.Challenge.rw_rightfrom_k02_numbers_names_and_symbols) (k := 7) (x := "_law_script") (Γ := Lk02.Gk) (m := Lk02.m_law) (fun _ => rfl) rfl (by kernel_rfl) ⟨rfl, by decide, by decide⟩ ?F Lk02.plain
    intro w K mg h KX G c
    have e : (HandSHeadRun.topDef (OpenLaw.row PySem.Challenge.rw_rightfrom_k02_numbers_names_and_symbols).prog 19).name = ("law" : PySem.Str) := by kernel_rfl
    rw [e]
    exact Lk02.facts KX G c
