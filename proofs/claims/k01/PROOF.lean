import PyProof.Rows.All
import Wide.All
import OpenK.AllK
import Wide.FinOn
import HandS.ForMost
import HandS.ForExc
import HandS.Lambda
import HandS.Wide
import HandS.Flow
import HandS.IsInst
import HandS.Style
import HandS.Defaults
import HandS.CallSlots
import HandS.Zip
import HandS.Small
import HandS.More
import PyProof.ListStr
import HandS.Strs
import HandS.SetKeys
import PyProof.Rows.SetFrom
import HandS.WordsDict
import HandS.TupLen
import HandS.Text
import HandS.RaiseMore
import HandS.SortInts
import HandS.Conv
import HandS.HeadHook2
import HandS.HeadEnd
import HandS.Head2
import HandS.Property
import HandS.ClsMeth
import HandS.HeadNt
import HandS.MakeKw
import HandS.MakeKwOnly
import HandS.SlotsOwn
import HandS.FStr
import OpenK.KOps
import KE.GoesMore
import PyProof.EnumFor
import HandS.HeadHook3
import HandS.Replace
import HandS.ExcInit
import HandS.HotCalls
import HandS.ExcField
import HandS.HeadHook4
import HandS.HeadWalk
import HandS.Dict
import HandS.ListItems
import KE.SortData
import HandS.DictComp
import KE.KDictList
import KE.KDictKeyed
import HandS.SortKw
import KE.SortKeyHeap
import KE.KExcInit
import KE.KDictPairs
import HandS.Nested
import KE.KSuper
import KE.KOpsOwn
import KE.KNest
import HandS.OwnEq
import HandS.Star
import HandS.Exc
import HandS.ExcValue
import KE.KExcIs
import PySem.Challenge.RW_rightfrom_k01_errors_by_themselves
local macro_rules
 | `(tactic| iterate $s:tacticSeq) => `(tactic| (refine ?zz; exact (by exact ?yy : type_of% (let_mvar% ?yy := (by $s : type_of% ?zz); ?yy))))
set_option Elab.async false
set_option linter.all false
set_option maxRecDepth 100000
set_option maxHeartbeats 0
namespace DV
open PySem PySem.Spec PyProof.Rows L2
/-- a datum: what a value means, with nothing of addresses; ob i: the i-th thing of the store; cl c: a class or def of the module; kl, kt: a list, a tuple that is only read -/
inductive D where
  | non | bl (b : Bool) | int (i : Int) | str (x : Str) | ty (n : String)
  | lst (xs : List D) | tup (xs : List D) | kl (xs : List D) | kt (xs : List D)
  | dK (kvs : List (Key × D)) | dT (kvs : List (List Key × D))
  | ins (c : Nat) (fs : List (Str × D))
  | ob (i : Nat)
  | cl (c : Nat)
  /-- the k-th lambda of the law, made in the law's frame -/
  | fn (k : Nat)
  /-- a thing of which nothing is known -/
  | unk
  /-- a dict with tuple keys that is locked -/
  | lt (kvs : List (List Key × D))
  deriving Inhabited
/-- what a name of the frame, or a thing of the store, holds: a datum that never changes, or a thing of its own -/
inductive Sl where
  | emp
  | val (d : D)
  | lst (xs : List D)
  | dK (kvs : List (Key × D)) | dT (kvs : List (List Key × D))
  | ins (c : Nat) (fs : List (Str × Sl))
  /-- a code object's table; a cell of the law's frame, kept for it; that cell, looked into; a caught exception -/
  | tab (q : Str) | rsv (x : Str) | cel (x : Str) (d : D) | exn (c : Nat) (fs : List (Str × D))
  deriving Inhabited
/-- a lambda without parameters -/
structure LamI where
  qual : Str
  params : Arguments
  body : Expr
  scope : Scope
structure Gm where
  K : PySem.W.Frag
  cA : Nat → Addr
  lam : Nat → LamI
  cel : List (Str × Addr)
  tb : Str → Addr
/-- all names that it captures have cells -/
def LamI.Full (L : LamI) (cel : List (Str × Addr)) : Prop := ∀ y ∈ L.scope.names, y.2 = .free → ∃ b, cel.lookup y.1 = some b
abbrev LamI.obj (L : LamI) (cel : List (Str × Addr)) (pm : Value) (c : Addr) (ct : Value) : Obj := PySem.W.kla_obj "<lambda>" L.qual L.params L.body L.scope (cloFrom cel L.scope.names []) pm c ct
/-- the codes that a table tells are known -/
structure TabC (F : Hp) (ps : Array Value) (q : Str) : Prop where
  tr : TriplesOk ps.toList
  co : ∀ (pos : Pos) (cv : Value), codeAmong pos ps.toList = some cv → ∃ c, cv = .ref c ∧ F c = some (LamX.CodeO c q)
section
variable (Γ : Gm) (R : List Addr) (F : Hp)
mutual
def Rep : D → V → Prop
  | .non, v => v = .non
  | .bl b, v => v = .bl b
  | .int i, v => v = .int i
  | .str x, v => v = .str x
  | .ty n, v => v = .ty n
  | .lst xs, v => ∃ a ys, v = .ref a ∧ F a = some (.lst ys) ∧ RepL xs ys
  | .kl xs, v => ∃ a ys, v = .ref a ∧ SqL Γ.K F a ys ∧ RepL xs ys
  | .tup xs, v => ∃ a ys, v = .ref a ∧ F a = some (.tup ys) ∧ RepL xs ys
  | .kt xs, v => ∃ a ys, v = .ref a ∧ SqT Γ.K F a ys ∧ RepL xs ys
  | .dK kvs, v => ∃ a ys, v = .ref a ∧ F a = some (.dK ys) ∧ RepK kvs ys
  | .dT kvs, v => ∃ a ys, v = .ref a ∧ F a = some (.dT ys) ∧ RepT kvs ys
  | .ins c fs, v => ∃ a dx gs, v = .ref a ∧ F a = some (.ins (Γ.cA c) dx gs) ∧ F dx = some (.own a) ∧ RepF fs gs
  | .ob i, v => ∃ a, R[i]? = some a ∧ v = .ref a
  | .cl c, v => v = .ref (Γ.cA c)
  | .fn k, v => ∃ f c pm ct, v = .ref f ∧ F f = some (.frz ((Γ.lam k).obj Γ.cel pm c ct) (.own f)) ∧ F c = some (LamX.CodeO c (Γ.lam k).qual) ∧ (Γ.lam k).Full Γ.cel
  | .unk, v => ∃ a, v = .ref a
  | .lt kvs, v => ∃ a o ys, v = .ref a ∧ F a = some (.frz o (.dT ys)) ∧ RepT kvs ys
def RepL : List D → List V → Prop
  | [], ys => ys = []
  | x :: xs, ys => ∃ y ys', ys = y :: ys' ∧ Rep x y ∧ RepL xs ys'
def RepK : List (Key × D) → List (Key × V) → Prop
  | [], ys => ys = []
  | (k, x) :: xs, ys => ∃ y ys', ys = (k, y) :: ys' ∧ Rep x y ∧ RepK xs ys'
def RepT : List (List Key × D) → List (List Key × V) → Prop
  | [], ys => ys = []
  | (k, x) :: xs, ys => ∃ y ys', ys = (k, y) :: ys' ∧ Rep x y ∧ RepT xs ys'
def RepF : List (Str × D) → List (Str × V) → Prop
  | [], ys => ys = []
  | (k, x) :: xs, ys => ∃ y ys', ys = (k, y) :: ys' ∧ Rep x y ∧ RepF xs ys'
end
abbrev Cells := List (Addr × HO)
mutual
def Own : Sl → V → Cells → Prop
  | .emp, _, _ => False
  | .val d, v, c => c = [] ∧ Rep Γ R F d v
  | .lst xs, v, c => ∃ a ys, v = .ref a ∧ RepL Γ R F xs ys ∧ c = [(a, .lst ys)]
  | .dK kvs, v, c => ∃ a ys, v = .ref a ∧ RepK Γ R F kvs ys ∧ c = [(a, .dK ys)]
  | .dT kvs, v, c => ∃ a ys, v = .ref a ∧ RepT Γ R F kvs ys ∧ c = [(a, .dT ys)]
  | .ins cn fs, v, c => ∃ a dx gs c', v = .ref a ∧ OwnF fs gs c' ∧ c = (a, .ins (Γ.cA cn) dx gs) :: (dx, .own a) :: c'
  | .tab q, v, c => ∃ ps, v = .ref (Γ.tb q) ∧ TabC F ps q ∧ c = [(Γ.tb q, .tbl ps)]
  | .rsv x, v, c => (∃ b, v = .ref b) ∧ (∃ a, Γ.cel.lookup x = some a) ∧ c = []
  | .cel x d, v, c => ∃ a o u y, (∃ b, v = .ref b) ∧ Γ.cel.lookup x = some a ∧ o.data = .cell (some u) ∧ RelV y u ∧ Rep Γ R F d y ∧ c = [(a, .frz o (.own a))]
  | .exn cn fs, v, c => ∃ a o dd vs gs, v = .ref a ∧ o.cls = .ref (Γ.cA cn) ∧ o.dict = some dd ∧ o.data = .fields vs ∧ F dd = some (.xd gs) ∧ RepF Γ R F fs gs ∧ c = [(a, .frz o (.own a))]
def OwnF : List (Str × Sl) → List (Str × V) → Cells → Prop
  | [], gs, c => gs = [] ∧ c = []
  | (f, s) :: fs, gs, c => ∃ v gs' c1 c2, gs = (f, v) :: gs' ∧ Own s v c1 ∧ OwnF fs gs' c2 ∧ c = c1 ++ c2
end
/-- a name's slot: nothing is known of an empty one -/
def OwnO : Sl → Option V → Cells → Prop
  | .emp, _, c => c = []
  | s, o, c => ∃ v, o = some v ∧ Own Γ R F s v c
def OwnE : List Sl → List (Option V) → Cells → Prop
  | [], σ, c => σ = [] ∧ c = []
  | s :: ρ, σ, c => ∃ o σ' c1 c2, σ = o :: σ' ∧ OwnO Γ R F s o c1 ∧ OwnE ρ σ' c2 ∧ c = c1 ++ c2
def OwnS : List Sl → List Addr → Cells → Prop
  | [], r, c => r = [] ∧ c = []
  | s :: S, r, c => ∃ a r' c1 c2, r = a :: r' ∧ OwnO Γ R F s (some (.ref a)) c1 ∧ OwnS S r' c2 ∧ c = c1 ++ c2
end
section
variable {Γ : Gm} {R R' : List Addr} {F F' : Hp}
/-- the roots grow at their end, the frozen heap grows -/
structure Gr (R R' : List Addr) (F F' : Hp) : Prop where
  r : ∃ m, R' = R ++ m
  f : ∀ a o, F a = some o → F' a = some o
theorem Gr.refl : Gr R R F F := ⟨⟨[], by simp⟩, fun _ _ h => h⟩
theorem SqL.up {K : PySem.W.Frag} {a : Addr} {xs : List V} (e : ∀ b o, F b = some o → F' b = some o) (h : SqL K F a xs) : SqL K F' a xs := by
  rcases h with (h | ⟨o, h⟩) | h
  · exact .inl (.inl (e _ _ h))
  · exact .inl (.inr ⟨o, e _ _ h⟩)
  · exact .inr h
theorem SqT.up {K : PySem.W.Frag} {a : Addr} {xs : List V} (e : ∀ b o, F b = some o → F' b = some o) (h : SqT K F a xs) : SqT K F' a xs := by
  rcases h with (h | ⟨o, h⟩) | h
  · exact .inl (.inl (e _ _ h))
  · exact .inl (.inr ⟨o, e _ _ h⟩)
  · exact .inr h
mutual
theorem Rep.up (g : Gr R R' F F') : ∀ (d : D) (v : V), Rep Γ R F d v → Rep Γ R' F' d v
  | .non, v, h => h
  | .bl b, v, h => h
  | .int i, v, h => h
  | .str x, v, h => h
  | .ty n, v, h => h
  | .cl n, v, h => h
  | .unk, v, h => by rw [Rep] at h ⊢; exact h
  | .lt xs, v, h => by
    rw [Rep] at h ⊢
    obtain ⟨a, o, ys, e, q, l⟩ := h
    exact ⟨a, o, ys, e, g.f _ _ q, RepT.up g xs ys l⟩
  | .fn n, v, h => by
    rw [Rep] at h ⊢
    obtain ⟨f, c, pm, ct, e, q, l, u⟩ := h
    exact ⟨f, c, pm, ct, e, g.f _ _ q, g.f _ _ l, u⟩
  | .lst xs, v, h => by
    rw [Rep] at h ⊢
    obtain ⟨a, ys, e, q, l⟩ := h
    exact ⟨a, ys, e, g.f _ _ q, RepL.up g xs ys l⟩
  | .kl xs, v, h => by
    rw [Rep] at h ⊢
    obtain ⟨a, ys, e, q, l⟩ := h
    exact ⟨a, ys, e, SqL.up g.f q, RepL.up g xs ys l⟩
  | .tup xs, v, h => by
    rw [Rep] at h ⊢
    obtain ⟨a, ys, e, q, l⟩ := h
    exact ⟨a, ys, e, g.f _ _ q, RepL.up g xs ys l⟩
  | .kt xs, v, h => by
    rw [Rep] at h ⊢
    obtain ⟨a, ys, e, q, l⟩ := h
    exact ⟨a, ys, e, SqT.up g.f q, RepL.up g xs ys l⟩
  | .dK xs, v, h => by
    rw [Rep] at h ⊢
    obtain ⟨a, ys, e, q, l⟩ := h
    exact ⟨a, ys, e, g.f _ _ q, RepK.up g xs ys l⟩
  | .dT xs, v, h => by
    rw [Rep] at h ⊢
    obtain ⟨a, ys, e, q, l⟩ := h
    exact ⟨a, ys, e, g.f _ _ q, RepT.up g xs ys l⟩
  | .ins c fs, v, h => by
    rw [Rep] at h ⊢
    obtain ⟨a, dx, gs, e, q, q2, l⟩ := h
    exact ⟨a, dx, gs, e, g.f _ _ q, g.f _ _ q2, RepF.up g fs gs l⟩
  | .ob i, v, h => by
    rw [Rep] at h ⊢
    obtain ⟨a, e, q⟩ := h
    obtain ⟨m, rfl⟩ := g.r
    refine ⟨a, ?_, q⟩
    rw [List.getElem?_append_left (List.getElem?_eq_some_iff.mp e).1]
    exact e
theorem RepL.up (g : Gr R R' F F') : ∀ (xs : List D) (ys : List V), RepL Γ R F xs ys → RepL Γ R' F' xs ys
  | [], ys, h => h
  | x :: xs, ys, h => by
    rw [RepL] at h ⊢
    obtain ⟨y, ys', e, q, l⟩ := h
    exact ⟨y, ys', e, Rep.up g x y q, RepL.up g xs ys' l⟩
theorem RepK.up (g : Gr R R' F F') : ∀ (xs : List (Key × D)) (ys : List (Key × V)), RepK Γ R F xs ys → RepK Γ R' F' xs ys
  | [], ys, h => h
  | (k, x) :: xs, ys, h => by
    rw [RepK] at h ⊢
    obtain ⟨y, ys', e, q, l⟩ := h
    exact ⟨y, ys', e, Rep.up g x y q, RepK.up g xs ys' l⟩
theorem RepT.up (g : Gr R R' F F') : ∀ (xs : List (List Key × D)) (ys : List (List Key × V)), RepT Γ R F xs ys → RepT Γ R' F' xs ys
  | [], ys, h => h
  | (k, x) :: xs, ys, h => by
    rw [RepT] at h ⊢
    obtain ⟨y, ys', e, q, l⟩ := h
    exact ⟨y, ys', e, Rep.up g x y q, RepT.up g xs ys' l⟩
theorem RepF.up (g : Gr R R' F F') : ∀ (xs : List (Str × D)) (ys : List (Str × V)), RepF Γ R F xs ys → RepF Γ R' F' xs ys
  | [], ys, h => h
  | (k, x) :: xs, ys, h => by
    rw [RepF] at h ⊢
    obtain ⟨y, ys', e, q, l⟩ := h
    exact ⟨y, ys', e, Rep.up g x y q, RepF.up g xs ys' l⟩
end
mutual
theorem Own.up (g : Gr R R' F F') : ∀ (s : Sl) (v : V) (c : Cells), Own Γ R F s v c → Own Γ R' F' s v c
  | .emp, v, c, h => h
  | .val d, v, c, h => by
    rw [Own] at h ⊢
    exact ⟨h.1, h.2.up g⟩
  | .lst xs, v, c, h => by
    rw [Own] at h ⊢
    obtain ⟨a, ys, e, q, l⟩ := h
    exact ⟨a, ys, e, q.up g, l⟩
  | .dK xs, v, c, h => by
    rw [Own] at h ⊢
    obtain ⟨a, ys, e, q, l⟩ := h
    exact ⟨a, ys, e, q.up g, l⟩
  | .dT xs, v, c, h => by
    rw [Own] at h ⊢
    obtain ⟨a, ys, e, q, l⟩ := h
    exact ⟨a, ys, e, q.up g, l⟩
  | .ins cn fs, v, c, h => by
    rw [Own] at h ⊢
    obtain ⟨a, dx, gs, c', e, q, l⟩ := h
    exact ⟨a, dx, gs, c', e, OwnF.up g fs gs c' q, l⟩
  | .tab q, v, c, h => by
    rw [Own] at h ⊢
    obtain ⟨ps, e, t, l⟩ := h
    exact ⟨ps, e, ⟨t.tr, fun pos cv z => let ⟨c, e1, e2⟩ := t.co pos cv z; ⟨c, e1, g.f _ _ e2⟩⟩, l⟩
  | .rsv x, v, c, h => by
    rw [Own] at h ⊢
    exact h
  | .cel x d, v, c, h => by
    rw [Own] at h ⊢
    obtain ⟨a, o, u, y, e1, e2, e3, e4, e5, e6⟩ := h
    exact ⟨a, o, u, y, e1, e2, e3, e4, Rep.up g _ _ e5, e6⟩
  | .exn cn fs, v, c, h => by
    rw [Own] at h ⊢
    obtain ⟨a, o, dd, vs, gs, e1, e2, e3, e4, e5, e6, e7⟩ := h
    exact ⟨a, o, dd, vs, gs, e1, e2, e3, e4, g.f _ _ e5, RepF.up g _ _ e6, e7⟩
theorem OwnF.up (g : Gr R R' F F') : ∀ (fs : List (Str × Sl)) (gs : List (Str × V)) (c : Cells), OwnF Γ R F fs gs c → OwnF Γ R' F' fs gs c
  | [], gs, c, h => h
  | (f, s) :: fs, gs, c, h => by
    rw [OwnF] at h ⊢
    obtain ⟨v, gs', c1, c2, e, q, l, e2⟩ := h
    exact ⟨v, gs', c1, c2, e, Own.up g s v c1 q, OwnF.up g fs gs' c2 l, e2⟩
end
theorem OwnO.up (g : Gr R R' F F') {s : Sl} {o : Option V} {c : Cells} (h : OwnO Γ R F s o c) : OwnO Γ R' F' s o c := by iterate
  cases s with
  | emp => exact h
  | val d => obtain ⟨v, e, q⟩ := h; exact ⟨v, e, Own.up g _ _ _ q⟩
  | lst d => obtain ⟨v, e, q⟩ := h; exact ⟨v, e, Own.up g _ _ _ q⟩
  | dK d => obtain ⟨v, e, q⟩ := h; exact ⟨v, e, Own.up g _ _ _ q⟩
  | dT d => obtain ⟨v, e, q⟩ := h; exact ⟨v, e, Own.up g _ _ _ q⟩
  | ins c d => obtain ⟨v, e, q⟩ := h; exact ⟨v, e, Own.up g _ _ _ q⟩
  | tab q => obtain ⟨v, e, q⟩ := h; exact ⟨v, e, Own.up g _ _ _ q⟩
  | rsv q => obtain ⟨v, e, q⟩ := h; exact ⟨v, e, Own.up g _ _ _ q⟩
  | cel q d => obtain ⟨v, e, q⟩ := h; exact ⟨v, e, Own.up g _ _ _ q⟩
  | exn q d => obtain ⟨v, e, q⟩ := h; exact ⟨v, e, Own.up g _ _ _ q⟩
theorem OwnE.up (g : Gr R R' F F') : ∀ {ρ : List Sl} {σ : List (Option V)} {c : Cells}, OwnE Γ R F ρ σ c → OwnE Γ R' F' ρ σ c
  | [], _, _, h => h
  | _ :: _, _, _, ⟨o, σ', c1, c2, e, q, l, e2⟩ => ⟨o, σ', c1, c2, e, q.up g, OwnE.up g l, e2⟩
theorem OwnS.up (g : Gr R R' F F') : ∀ {S : List Sl} {r : List Addr} {c : Cells}, OwnS Γ R F S r c → OwnS Γ R' F' S r c
  | [], _, _, h => h
  | _ :: _, _, _, ⟨o, σ', c1, c2, e, q, l, e2⟩ => ⟨o, σ', c1, c2, e, q.up g, OwnS.up g l, e2⟩
theorem OwnE.length : ∀ {ρ : List Sl} {σ : List (Option V)} {c : Cells}, OwnE Γ R F ρ σ c → ρ.length = σ.length
  | [], _, _, h => by rw [h.1]; rfl
  | _ :: _, _, _, ⟨o, σ', c1, c2, e, q, l, e2⟩ => by rw [e, List.length_cons, List.length_cons, OwnE.length l]
theorem OwnS.length : ∀ {S : List Sl} {r : List Addr} {c : Cells}, OwnS Γ R F S r c → S.length = r.length
  | [], _, _, h => by rw [h.1]; rfl
  | _ :: _, _, _, ⟨o, σ', c1, c2, e, q, l, e2⟩ => by rw [e, List.length_cons, List.length_cons, OwnS.length l]
theorem RepL.length : ∀ {xs : List D} {ys : List V}, RepL Γ R F xs ys → xs.length = ys.length
  | [], _, h => by rw [RepL] at h; rw [h]; rfl
  | _ :: _, _, h => by
    rw [RepL] at h
    obtain ⟨y, ys', e, q, l⟩ := h
    rw [e, List.length_cons, List.length_cons, RepL.length l]
end
/-- F: what is frozen, E: the cells that the frame's slots own, C: those that the store owns, R: the store's roots, H: the heap -/
structure Wd where
  F : Hp
  E : Cells
  C : Cells
  R : List Addr
  H : Hp
abbrev Wd.ad (w : Wd) : List Addr := (w.E ++ w.C).map (·.1)
structure Good (w : Wd) : Prop where
  sub : ∀ a o, w.F a = some o → w.H a = some o
  cell : ∀ p ∈ w.E ++ w.C, w.H p.1 = some p.2 ∧ w.F p.1 = none
  nd : w.ad.Nodup
/-- what a piece of code may have done: what was frozen stays, what is not its own stays, what is new is new -/
structure Ext (w w' : Wd) : Prop where
  gr : Gr w.R w'.R w.F w'.F
  keep : ∀ a o, w.H a = some o → a ∉ w.ad → w'.H a = some o
  cnew : ∀ a, a ∈ w'.ad → a ∈ w.ad ∨ w.H a = none
  fnew : ∀ a o, w'.F a = some o → w.F a = some o ∨ w.H a = none ∨ a ∈ w.ad ∨ ∃ xs, w.H a = some (.tup xs)
  live : ∀ a o, w.H a = some o → ∃ o', w'.H a = some o'
theorem Gr.trans {R R1 R2 : List Addr} {F F1 F2 : Hp} (a : Gr R R1 F F1) (b : Gr R1 R2 F1 F2) : Gr R R2 F F2 := by
  obtain ⟨m, e⟩ := a.r
  obtain ⟨m', e'⟩ := b.r
  exact ⟨⟨m ++ m', by rw [e', e, List.append_assoc]⟩, fun c o h => b.f c o (a.f c o h)⟩
theorem Ext.refl (w : Wd) : Ext w w := ⟨.refl, fun _ _ h _ => h, fun _ h => .inl h, fun _ _ h => .inl h, fun _ o h => ⟨o, h⟩⟩
theorem Ext.none_of {w w' : Wd} (x : Ext w w') {a : Addr} (h : w'.H a = none) : w.H a = none := by
  cases q : w.H a with
  | none => rfl
  | some o =>
    obtain ⟨o', e⟩ := x.live a o q
    rw [h] at e; cases e
theorem Ext.trans {w w1 w2 : Wd} (x : Ext w w1) (y : Ext w1 w2) : Ext w w2 where
  gr := x.gr.trans y.gr
  keep := fun a o h ha => by
    refine y.keep a o (x.keep a o h ha) fun hc => ?_
    rcases x.cnew a hc with z | z
    · exact ha z
    · rw [h] at z; cases z
  cnew := fun a h => by
    rcases y.cnew a h with z | z
    · exact x.cnew a z
    · exact .inr (x.none_of z)
  fnew := fun a o h => by iterate
    rcases y.fnew a o h with z | z | z | z
    · exact x.fnew a o z
    · exact .inr (.inl (x.none_of z))
    · rcases x.cnew a z with z | z
      · exact .inr (.inr (.inl z))
      · exact .inr (.inl z)
    · obtain ⟨xs, z⟩ := z
      cases q : w.H a with
      | none => exact .inr (.inl rfl)
      | some u =>
        by_cases ha : a ∈ w.ad
        · exact .inr (.inr (.inl ha))
        · rw [x.keep a u q ha] at z
          cases z
          exact .inr (.inr (.inr ⟨xs, rfl⟩))
  live := fun a o h => by
    obtain ⟨o', e⟩ := x.live a o h
    exact y.live a o' e
section
variable {Γ : Gm} {R : List Addr} {F : Hp}
mutual
theorem Own.nt : ∀ (s : Sl) (v : V) (c : Cells), Own Γ R F s v c → ∀ p ∈ c, ∀ xs, p.2 ≠ .tup xs
  | .emp, v, c, h => by rw [Own] at h; exact h.elim
  | .val d, v, c, h => by rw [Own] at h; rw [h.1]; exact nofun
  | .lst xs, v, c, h => by rw [Own] at h; obtain ⟨a, ys, _, _, rfl⟩ := h; intro p hp xs; rw [List.mem_singleton.mp hp]; exact nofun
  | .dK xs, v, c, h => by rw [Own] at h; obtain ⟨a, ys, _, _, rfl⟩ := h; intro p hp xs; rw [List.mem_singleton.mp hp]; exact nofun
  | .dT xs, v, c, h => by rw [Own] at h; obtain ⟨a, ys, _, _, rfl⟩ := h; intro p hp xs; rw [List.mem_singleton.mp hp]; exact nofun
  | .ins cn fs, v, c, h => by
    rw [Own] at h
    obtain ⟨a, dx, gs, c', _, q, rfl⟩ := h
    intro p hp xs
    rcases List.mem_cons.mp hp with rfl | hp
    · exact nofun
    rcases List.mem_cons.mp hp with rfl | hp
    · exact nofun
    · exact OwnF.nt fs gs c' q p hp xs
  | .tab q, v, c, h => by rw [Own] at h; obtain ⟨ps, _, _, rfl⟩ := h; intro p hp xs; rw [List.mem_singleton.mp hp]; exact nofun
  | .rsv x, v, c, h => by rw [Own] at h; rw [h.2.2]; exact nofun
  | .cel x d, v, c, h => by rw [Own] at h; obtain ⟨a, o, u, y, _, _, _, _, _, rfl⟩ := h; intro p hp xs; rw [List.mem_singleton.mp hp]; exact nofun
  | .exn cn fs, v, c, h => by rw [Own] at h; obtain ⟨a, o, dd, vs, gs, _, _, _, _, _, _, rfl⟩ := h; intro p hp xs; rw [List.mem_singleton.mp hp]; exact nofun
theorem OwnF.nt : ∀ (fs : List (Str × Sl)) (gs : List (Str × V)) (c : Cells), OwnF Γ R F fs gs c → ∀ p ∈ c, ∀ xs, p.2 ≠ .tup xs
  | [], gs, c, h => by rw [OwnF] at h; rw [h.2]; exact nofun
  | (f, s) :: fs, gs, c, h => by
    rw [OwnF] at h
    obtain ⟨v, gs', c1, c2, _, q, l, rfl⟩ := h
    intro p hp xs
    rcases List.mem_append.mp hp with hp | hp
    · exact Own.nt s v c1 q p hp xs
    · exact OwnF.nt fs gs' c2 l p hp xs
end
theorem OwnO.nt {s : Sl} {o : Option V} {c : Cells} (h : OwnO Γ R F s o c) : ∀ p ∈ c, ∀ xs, p.2 ≠ .tup xs := by iterate
  cases s with
  | emp => rw [show c = [] from h]; exact nofun
  | val d => obtain ⟨v, e, q⟩ := h; exact Own.nt _ _ _ q
  | lst d => obtain ⟨v, e, q⟩ := h; exact Own.nt _ _ _ q
  | dK d => obtain ⟨v, e, q⟩ := h; exact Own.nt _ _ _ q
  | dT d => obtain ⟨v, e, q⟩ := h; exact Own.nt _ _ _ q
  | ins c d => obtain ⟨v, e, q⟩ := h; exact Own.nt _ _ _ q
  | tab q => obtain ⟨v, e, q⟩ := h; exact Own.nt _ _ _ q
  | rsv q => obtain ⟨v, e, q⟩ := h; exact Own.nt _ _ _ q
  | cel q d => obtain ⟨v, e, q⟩ := h; exact Own.nt _ _ _ q
  | exn q d => obtain ⟨v, e, q⟩ := h; exact Own.nt _ _ _ q
theorem OwnE.nt : ∀ {ρ : List Sl} {σ : List (Option V)} {c : Cells}, OwnE Γ R F ρ σ c → ∀ p ∈ c, ∀ xs, p.2 ≠ .tup xs
  | [], _, _, h => by rw [h.2]; exact nofun
  | _ :: _, _, _, ⟨o, σ', c1, c2, _, q, l, e2⟩ => fun p hp xs => by
    rw [e2] at hp
    rcases List.mem_append.mp hp with hp | hp
    · exact q.nt p hp xs
    · exact OwnE.nt l p hp xs
end
mutual
def Sl.frz : Sl → D
  | .emp => .non
  | .val d => d
  | .lst xs => .lst xs
  | .dK xs => .dK xs
  | .dT xs => .dT xs
  | .ins c fs => .ins c (frzF fs)
  | .tab _ => .unk
  | .rsv _ => .unk
  | .cel _ _ => .unk
  | .exn _ _ => .unk
def frzF : List (Str × Sl) → List (Str × D)
  | [] => []
  | (f, s) :: fs => (f, s.frz) :: frzF fs
end
/-- the frozen heap with some cells more -/
def addC (F : Hp) (c : Cells) : Hp := fun a => match c.find? (fun p => p.1 == a) with
  | some p => some p.2
  | none => F a
theorem addC_of {F : Hp} {c : Cells} {p : Addr × HO} (nd : (c.map (·.1)).Nodup) (hp : p ∈ c) : addC F c p.1 = some p.2 := by iterate
  unfold addC
  have : c.find? (fun q => q.1 == p.1) = some p := by
    induction c with
    | nil => cases hp
    | cons x r ih =>
      rw [List.map_cons, List.nodup_cons] at nd
      rcases List.mem_cons.mp hp with e | e
      · subst e; simp
      · rw [List.find?_cons]
        have hx : (x.1 == p.1) = false := by
          rw [beq_eq_false_iff_ne]
          intro z
          exact nd.1 (z ▸ List.mem_map_of_mem e)
        rw [hx]
        exact ih nd.2 e
  rw [this]
theorem addC_out {F : Hp} {c : Cells} {a : Addr} (h : a ∉ c.map (·.1)) : addC F c a = F a := by
  unfold addC
  have : c.find? (fun p => p.1 == a) = none := by
    rw [List.find?_eq_none]
    intro p hp e
    exact h (by rw [← (beq_iff_eq.mp e)]; exact List.mem_map_of_mem hp)
  rw [this]
theorem addC_cases {F : Hp} {c : Cells} {a : Addr} {o : HO} (h : addC F c a = some o) : (a, o) ∈ c ∨ F a = some o := by
  unfold addC at h
  split at h
  · rename_i p e
    have h1 := List.mem_of_find?_eq_some e
    have h2 := List.find?_some e
    have h2 : p.1 = a := beq_iff_eq.mp h2
    cases h
    subst h2
    exact .inl h1
  · exact .inr h
theorem addC_up {F : Hp} {c : Cells} (h : ∀ p ∈ c, F p.1 = none) : ∀ a o, F a = some o → addC F c a = some o := fun a o e => by
  rw [addC_out, e]
  intro z
  obtain ⟨p, hp, rfl⟩ := List.mem_map.mp z
  rw [h p hp] at e; cases e
section
variable {Γ : Gm} {R : List Addr} {F G : Hp}
mutual
theorem Own.frz (up : ∀ a o, F a = some o → G a = some o) : ∀ (s : Sl) (v : V) (c : Cells), (∀ p ∈ c, G p.1 = some p.2) → Own Γ R F s v c → Rep Γ R G s.frz v
  | .emp, v, c, hc, h => by rw [Own] at h; exact h.elim
  | .val d, v, c, hc, h => by
    rw [Own] at h
    exact Rep.up ⟨⟨[], by simp⟩, up⟩ _ _ h.2
  | .lst xs, v, c, hc, h => by
    rw [Own] at h
    obtain ⟨a, ys, e, q, l⟩ := h
    subst l
    rw [Sl.frz, Rep]
    exact ⟨a, ys, e, hc (a, .lst ys) (by simp), RepL.up ⟨⟨[], by simp⟩, up⟩ _ _ q⟩
  | .dK xs, v, c, hc, h => by
    rw [Own] at h
    obtain ⟨a, ys, e, q, l⟩ := h
    subst l
    rw [Sl.frz, Rep]
    exact ⟨a, ys, e, hc (a, .dK ys) (by simp), RepK.up ⟨⟨[], by simp⟩, up⟩ _ _ q⟩
  | .dT xs, v, c, hc, h => by
    rw [Own] at h
    obtain ⟨a, ys, e, q, l⟩ := h
    subst l
    rw [Sl.frz, Rep]
    exact ⟨a, ys, e, hc (a, .dT ys) (by simp), RepT.up ⟨⟨[], by simp⟩, up⟩ _ _ q⟩
  | .ins cn fs, v, c, hc, h => by
    rw [Own] at h
    obtain ⟨a, dx, gs, c', e, q, l⟩ := h
    subst l
    rw [Sl.frz, Rep]
    exact ⟨a, dx, gs, e, hc (a, _) (by simp), hc (dx, _) (by simp), OwnF.frz up fs gs c' (fun p hp => hc p (by simp [hp])) q⟩
  | .tab q, v, c, hc, h => by rw [Own] at h; rw [Sl.frz, Rep]; exact ⟨_, h.choose_spec.1⟩
  | .rsv q, v, c, hc, h => by rw [Own] at h; rw [Sl.frz, Rep]; exact h.1
  | .cel q d, v, c, hc, h => by rw [Own] at h; obtain ⟨a, o, u, y, e, _⟩ := h; rw [Sl.frz, Rep]; exact e
  | .exn q d, v, c, hc, h => by rw [Own] at h; obtain ⟨a, o, dd, vs, gs, e, _⟩ := h; rw [Sl.frz, Rep]; exact ⟨_, e⟩
theorem OwnF.frz (up : ∀ a o, F a = some o → G a = some o) : ∀ (fs : List (Str × Sl)) (gs : List (Str × V)) (c : Cells), (∀ p ∈ c, G p.1 = some p.2) → OwnF Γ R F fs gs c → RepF Γ R G (frzF fs) gs
  | [], gs, c, hc, h => by
    rw [OwnF] at h
    rw [frzF, RepF]
    exact h.1
  | (f, s) :: fs, gs, c, hc, h => by
    rw [OwnF] at h
    obtain ⟨v, gs', c1, c2, e, q, l, e2⟩ := h
    subst e2
    rw [frzF, RepF]
    exact ⟨v, gs', e, Own.frz up s v c1 (fun p hp => hc p (by simp [hp])) q, OwnF.frz up fs gs' c2 (fun p hp => hc p (by simp [hp])) l⟩
end
end
end DV
namespace DV
open PySem PySem.Spec PyProof.Rows L2
def OwnAll (Γ : Gm) (R : List Addr) (F : Hp) (ρ S : List Sl) (σ : List (Option V)) (E C : Cells) : Prop := OwnE Γ R F ρ σ E ∧ OwnS Γ R F S R C
structure Rel (Γ : Gm) (w : Wd) (ρ S : List Sl) (σ : List (Option V)) : Prop where
  good : Good w
  own : OwnAll Γ w.R w.F ρ S σ w.E w.C
/-- the frozen heap alone has grown -/
theorem OwnAll.up {Γ : Gm} {R : List Addr} {F F' : Hp} {ρ S : List Sl} {σ : List (Option V)} {E C : Cells} (f : ∀ a o, F a = some o → F' a = some o) (h : OwnAll Γ R F ρ S σ E C) : OwnAll Γ R F' ρ S σ E C :=
  ⟨h.1.up ⟨⟨[], by simp⟩, f⟩, h.2.up ⟨⟨[], by simp⟩, f⟩⟩
structure RelS (Γ : Gm) (w : Wd) (S : List Sl) : Prop where
  good : Good w
  noE : w.E = []
  own : OwnS Γ w.R w.F S w.R w.C
/-- what an expression gives: a datum, the frame's own thing at a slot, or a new thing -/
inductive Rv where
  | d (x : D) | env (i : Nat) | fr (s : Sl)
  deriving Inhabited
inductive Exn where
  | own (c : Nat) (fs : List (Str × D)) | blt (n : String)
inductive Res (α : Type) where
  | ok (a : α) (ρ S : List Sl) (t : Bool) | ex (x : Exn) (ρ S : List Sl) | bad
def Res.addt {α : Type} (t : Bool) : Res α → Res α
  | .ok a ρ S t' => .ok a ρ S (t || t')
  | .ex x ρ S => .ex x ρ S
  | .bad => .bad
def Res.bind {α β : Type} (r : Res α) (f : α → List Sl → List Sl → Res β) : Res β :=
  match r with
  | .ok a ρ S t => (f a ρ S).addt t
  | .ex x ρ S => .ex x ρ S
  | .bad => .bad
abbrev M (α : Type) := List Sl → List Sl → Res α
def M.bind {α β : Type} (c : M α) (f : α → M β) : M β := fun ρ S => (c ρ S).bind f
def M.bad {α : Type} : M α := fun _ _ => .bad
theorem Res.bind_ok {α β : Type} (a : α) (ρ S : List Sl) (t : Bool) (f : α → List Sl → List Sl → Res β) : (Res.ok a ρ S t).bind f = (f a ρ S).addt t := rfl
/-- cells that nobody else knows -/
structure Fresh (w : Wd) (c : Cells) : Prop where
  at_ : ∀ p ∈ c, w.H p.1 = some p.2 ∧ w.F p.1 = none ∧ p.1 ∉ w.ad
  nd : (c.map (·.1)).Nodup
/-- w0: the world ahead -/
def RvOk (Γ : Gm) (w0 w : Wd) (σ : List (Option V)) : Rv → V → Prop
  | .d d, v => Rep Γ w.R w.F d v
  | .env i, v => σ[i]? = some (some v)
  | .fr s, v => ∃ c, Own Γ w.R w.F s v c ∧ Fresh w c ∧ ∀ p ∈ c, w0.H p.1 = none ∨ p.1 ∈ w0.ad
theorem Fresh.up {w w' : Wd} {c : Cells} (x : Ext w w') (nt : ∀ p ∈ c, ∀ xs, p.2 ≠ .tup xs) (f : Fresh w c) : Fresh w' c := by iterate
  refine ⟨fun p hp => ?_, f.nd⟩
  obtain ⟨h1, h2, h3⟩ := f.at_ p hp
  refine ⟨x.keep _ _ h1 h3, ?_, fun z => ?_⟩
  · cases q : w'.F p.1 with
    | none => rfl
    | some o =>
      rcases x.fnew _ _ q with z | z | z | ⟨xs, z⟩
      · rw [h2] at z; cases z
      · rw [h1] at z; cases z
      · exact absurd z h3
      · rw [h1] at z; exact absurd (Option.some.inj z) (nt p hp xs)
  · rcases x.cnew _ z with z | z
    · exact h3 z
    · rw [h1] at z; cases z
theorem RvOk.up {Γ : Gm} {w0 w w' : Wd} {σ : List (Option V)} (x : Ext w w') : ∀ {r : Rv} {v : V}, RvOk Γ w0 w σ r v → RvOk Γ w0 w' σ r v
  | .d _, _, h => Rep.up x.gr _ _ h
  | .env _, _, h => h
  | .fr _, _, ⟨c, o, f, b⟩ => ⟨c, Own.up x.gr _ _ _ o, f.up x (Own.nt _ _ _ o), b⟩
theorem RvOk.base {Γ : Gm} {w0 w1 w : Wd} {σ : List (Option V)} (x : Ext w0 w1) : ∀ {r : Rv} {v : V}, RvOk Γ w1 w σ r v → RvOk Γ w0 w σ r v
  | .d _, _, h => h
  | .env _, _, h => h
  | .fr _, _, ⟨c, o, f, b⟩ => ⟨c, o, f, fun p hp => by
    rcases b p hp with z | z
    · exact .inl (x.none_of z)
    · rcases x.cnew _ z with z | z
      · exact .inr z
      · exact .inl z⟩
def XOk (Γ : Gm) (w : Wd) : Exn → Value → Option Addr → Prop
  | .own c fs, cls, d => cls = .ref (Γ.cA c) ∧ ∃ dd gs, d = some dd ∧ w.F dd = some (.xd gs) ∧ RepF Γ w.R w.F fs gs
  | .blt n, cls, _ => cls = .type n
section
variable (Γ : Gm) (W : WX)
/-- what an outcome owes -/
def CK (w : Wd) (σ : L2.St) (Q : VK) : Res Rv → Prop
  | .ok r ρ' S' t => ∀ w' v, Ext w w' → (t = false → w'.E = w.E) → Rel Γ w' ρ' S' σ → RvOk Γ w w' σ r v → Q v w'.H
  | .ex x ρ' S' => ∀ w' cls d, Ext w w' → Rel Γ w' ρ' S' σ → XOk Γ w' x cls d → W cls d σ w'.H
  | .bad => False
def tM (c : M Rv) : TE := fun σ H Q => ∃ F E C R ρ S, Rel Γ ⟨F, E, C, R, H⟩ ρ S σ ∧ CK Γ W ⟨F, E, C, R, H⟩ σ Q (c ρ S)
/-- of data -/
def CKd (w : Wd) (σ : L2.St) (Q : D → V → Hp → Prop) : Res D → Prop
  | .ok r ρ' S' t => ∀ w' v, Ext w w' → (t = false → w'.E = w.E) → Rel Γ w' ρ' S' σ → Rep Γ w'.R w'.F r v → Q r v w'.H
  | .ex x ρ' S' => ∀ w' cls d, Ext w w' → Rel Γ w' ρ' S' σ → XOk Γ w' x cls d → W cls d σ w'.H
  | .bad => False
def CKb (w : Wd) (σ : L2.St) (Q : Bool → Hp → Prop) : Res Bool → Prop
  | .ok b ρ' S' t => ∀ w', Ext w w' → (t = false → w'.E = w.E) → Rel Γ w' ρ' S' σ → Q b w'.H
  | .ex x ρ' S' => ∀ w' cls d, Ext w w' → Rel Γ w' ρ' S' σ → XOk Γ w' x cls d → W cls d σ w'.H
  | .bad => False
def tMb (c : M Bool) : TT := fun σ H Q => ∃ F E C R ρ S, Rel Γ ⟨F, E, C, R, H⟩ ρ S σ ∧ CKb Γ W ⟨F, E, C, R, H⟩ σ Q (c ρ S)
/-- argument lists: data all -/
def CKl (w : Wd) (σ : L2.St) (Q : List V → Hp → Prop) : Res (List D) → Prop
  | .ok ds ρ' S' t => ∀ w' vs, Ext w w' → (t = false → w'.E = w.E) → Rel Γ w' ρ' S' σ → RepL Γ w'.R w'.F ds vs → Q vs w'.H
  | .ex x ρ' S' => ∀ w' cls d, Ext w w' → Rel Γ w' ρ' S' σ → XOk Γ w' x cls d → W cls d σ w'.H
  | .bad => False
def tMl (c : M (List D)) : TA := fun σ H Q => ∃ F E C R ρ S, Rel Γ ⟨F, E, C, R, H⟩ ρ S σ ∧ CKl Γ W ⟨F, E, C, R, H⟩ σ Q (c ρ S)
end
section
variable {Γ : Gm} {W : WX} {w w' : Wd} {σ : L2.St} {Q : VK}
theorem CK.ext {t : Bool} {r : Res Rv} (x : Ext w w') (e : t = false → w'.E = w.E) (h : CK Γ W w σ Q (r.addt t)) : CK Γ W w' σ Q r := by
  cases r with
  | ok a ρ S t' =>
    refine fun w2 v x2 e2 R2 o2 => h w2 v (x.trans x2) (fun z => ?_) R2 (o2.base x)
    obtain ⟨z1, z2⟩ := Bool.or_eq_false_iff.mp z
    rw [e2 z2, e z1]
  | ex y ρ S => exact fun w2 cls d x2 R2 o2 => h w2 cls d (x.trans x2) R2 o2
  | bad => exact h
theorem CKb.ext {t : Bool} {Q : Bool → Hp → Prop} {r : Res Bool} (x : Ext w w') (e : t = false → w'.E = w.E) (h : CKb Γ W w σ Q (r.addt t)) : CKb Γ W w' σ Q r := by
  cases r with
  | ok a ρ S t' =>
    refine fun w2 x2 e2 R2 => h w2 (x.trans x2) (fun z => ?_) R2
    obtain ⟨z1, z2⟩ := Bool.or_eq_false_iff.mp z
    rw [e2 z2, e z1]
  | ex y ρ S => exact fun w2 cls d x2 R2 o2 => h w2 cls d (x.trans x2) R2 o2
  | bad => exact h
theorem CKl.ext {t : Bool} {Q : List V → Hp → Prop} {r : Res (List D)} (x : Ext w w') (e : t = false → w'.E = w.E) (h : CKl Γ W w σ Q (r.addt t)) : CKl Γ W w' σ Q r := by
  cases r with
  | ok a ρ S t' =>
    refine fun w2 v x2 e2 R2 o2 => h w2 v (x.trans x2) (fun z => ?_) R2 o2
    obtain ⟨z1, z2⟩ := Bool.or_eq_false_iff.mp z
    rw [e2 z2, e z1]
  | ex y ρ S => exact fun w2 cls d x2 R2 o2 => h w2 cls d (x.trans x2) R2 o2
  | bad => exact h
theorem CKd.ext {t : Bool} {Q : D → V → Hp → Prop} {r : Res D} (x : Ext w w') (e : t = false → w'.E = w.E) (h : CKd Γ W w σ Q (r.addt t)) : CKd Γ W w' σ Q r := by
  cases r with
  | ok a ρ S t' =>
    refine fun w2 v x2 e2 R2 o2 => h w2 v (x.trans x2) (fun z => ?_) R2 o2
    obtain ⟨z1, z2⟩ := Bool.or_eq_false_iff.mp z
    rw [e2 z2, e z1]
  | ex y ρ S => exact fun w2 cls d x2 R2 o2 => h w2 cls d (x.trans x2) R2 o2
  | bad => exact h
/-- the first of two -/
theorem CK.bind {r : Res Rv} {f : Rv → List Sl → List Sl → Res Rv} {Q1 : VK} (h : CK Γ W w σ Q (r.bind f))
    (k : ∀ a ρ S w' v, Ext w w' → Rel Γ w' ρ S σ → RvOk Γ w w' σ a v → CK Γ W w' σ Q (f a ρ S) → Q1 v w'.H) : CK Γ W w σ Q1 r := by
  cases r with
  | ok a ρ S t => exact fun w2 v x2 e2 R2 o2 => k a ρ S w2 v x2 R2 o2 (CK.ext x2 e2 h)
  | ex y ρ S => exact h
  | bad => exact h
theorem OwnO.of_ne {R : List Addr} {F : Hp} {s : Sl} {o : Option V} {c : Cells} (h : OwnO Γ R F s o c) (n : s ≠ .emp) : ∃ v, o = some v ∧ Own Γ R F s v c := by
  cases s with
  | emp => exact absurd rfl n
  | val d => exact h
  | lst d => exact h
  | dK d => exact h
  | dT d => exact h
  | ins c d => exact h
  | tab q => exact h
  | rsv q => exact h
  | cel q d => exact h
  | exn q d => exact h
theorem OwnO.mk {R : List Addr} {F : Hp} {s : Sl} {v : V} {c : Cells} (h : Own Γ R F s v c) : OwnO Γ R F s (some v) c := by iterate
  cases s with
  | emp => exact (show False from by rw [Own] at h; exact h).elim
  | val d => exact ⟨v, rfl, h⟩
  | lst d => exact ⟨v, rfl, h⟩
  | dK d => exact ⟨v, rfl, h⟩
  | dT d => exact ⟨v, rfl, h⟩
  | ins c d => exact ⟨v, rfl, h⟩
  | tab q => exact ⟨v, rfl, h⟩
  | rsv q => exact ⟨v, rfl, h⟩
  | cel q d => exact ⟨v, rfl, h⟩
  | exn q d => exact ⟨v, rfl, h⟩
/-- a slot's cells stand in a row; another thing may be put in its place -/
theorem OwnE.at {R : List Addr} {F : Hp} : ∀ {ρ : List Sl} {σ : L2.St} {c : Cells} {i : Nat} {s : Sl}, OwnE Γ R F ρ σ c → ρ[i]? = some s →
    ∃ o A B b, σ[i]? = some o ∧ c = A ++ b ++ B ∧ OwnO Γ R F s o b ∧ ∀ F', (∀ a o, F a = some o → F' a = some o) → ∀ s' o' b', OwnO Γ R F' s' o' b' → OwnE Γ R F' (ρ.set i s') (σ.set i o') (A ++ b' ++ B)
  | [], _, _, i, _, _, e => by simp at e
  | x :: ρ, σ, c, 0, s, h, e => by
    obtain ⟨o, σ', c1, c2, e1, q, l, e2⟩ := h
    simp at e
    subst e e1 e2
    exact ⟨o, [], c2, c1, by simp, by simp, q, fun F' up s' o' b' z => ⟨o', σ', b', c2, rfl, z, l.up ⟨⟨[], by simp⟩, up⟩, by simp⟩⟩
  | x :: ρ, σ, c, i + 1, s, h, e => by
    obtain ⟨o, σ', c1, c2, e1, q, l, e2⟩ := h
    obtain ⟨o1, A, B, b, h1, h2, h3, h4⟩ := OwnE.at (i := i) l (by simpa using e)
    subst e1 e2 h2
    refine ⟨o1, c1 ++ A, B, b, by simpa using h1, by simp [List.append_assoc], h3, fun F' up s' o' b' z => ?_⟩
    exact ⟨o, σ'.set i o', c1, A ++ b' ++ B, by simp, q.up ⟨⟨[], by simp⟩, up⟩, h4 F' up s' o' b' z, by simp [List.append_assoc]⟩
theorem OwnS.at {R : List Addr} {F : Hp} : ∀ {S : List Sl} {r : List Addr} {c : Cells} {i : Nat} {s : Sl}, OwnS Γ R F S r c → S[i]? = some s →
    ∃ a A B b, r[i]? = some a ∧ c = A ++ b ++ B ∧ OwnO Γ R F s (some (.ref a)) b ∧ ∀ F', (∀ a o, F a = some o → F' a = some o) → ∀ s' b', OwnO Γ R F' s' (some (.ref a)) b' → OwnS Γ R F' (S.set i s') r (A ++ b' ++ B)
  | [], _, _, i, _, _, e => by simp at e
  | x :: S, σ, c, 0, s, h, e => by
    obtain ⟨a, σ', c1, c2, e1, q, l, e2⟩ := h
    simp at e
    subst e e1 e2
    exact ⟨a, [], c2, c1, by simp, by simp, q, fun F' up s' b' z => ⟨a, σ', b', c2, rfl, z, l.up ⟨⟨[], by simp⟩, up⟩, by simp⟩⟩
  | x :: S, σ, c, i + 1, s, h, e => by
    obtain ⟨a, σ', c1, c2, e1, q, l, e2⟩ := h
    obtain ⟨o1, A, B, b, h1, h2, h3, h4⟩ := OwnS.at (i := i) l (by simpa using e)
    subst e1 e2 h2
    refine ⟨o1, c1 ++ A, B, b, by simpa using h1, by simp [List.append_assoc], h3, fun F' up s' b' z => ?_⟩
    exact ⟨a, σ', c1, A ++ b' ++ B, by simp, q.up ⟨⟨[], by simp⟩, up⟩, h4 F' up s' b' z, by simp [List.append_assoc]⟩
def Top (Γ : Gm) (w : Wd) : D → V → Prop
  | .lst xs, v => ∃ a ys, v = .ref a ∧ w.H a = some (.lst ys) ∧ RepL Γ w.R w.F xs ys
  | .dK xs, v => ∃ a ys, v = .ref a ∧ w.H a = some (.dK ys) ∧ RepK Γ w.R w.F xs ys
  | .dT xs, v => ∃ a ys, v = .ref a ∧ w.H a = some (.dT ys) ∧ RepT Γ w.R w.F xs ys
  | d, v => Rep Γ w.R w.F d v
theorem Rep.top (g : Good w) : ∀ {d : D} {v : V}, Rep Γ w.R w.F d v → Top Γ w d v
  | .non, _, h => h
  | .bl _, _, h => h
  | .int _, _, h => h
  | .str _, _, h => h
  | .ty _, _, h => h
  | .ins _ _, _, h => h
  | .ob _, _, h => h
  | .cl _, _, h => h
  | .fn _, _, h => h
  | .unk, _, h => h
  | .lt _, _, h => h
  | .lst xs, v, h => by
    rw [Rep] at h
    obtain ⟨a, ys, e, q, l⟩ := h
    exact ⟨a, ys, e, g.sub _ _ q, l⟩
  | .kl _, _, h => h
  | .kt _, _, h => h
  | .tup _, _, h => h
  | .dK xs, v, h => by
    rw [Rep] at h
    obtain ⟨a, ys, e, q, l⟩ := h
    exact ⟨a, ys, e, g.sub _ _ q, l⟩
  | .dT xs, v, h => by
    rw [Rep] at h
    obtain ⟨a, ys, e, q, l⟩ := h
    exact ⟨a, ys, e, g.sub _ _ q, l⟩
/-- an owned thing's content, as a datum -/
def Sl.rd : Sl → Option D
  | .emp => none
  | .val d => some d
  | .lst xs => some (.lst xs)
  | .dK xs => some (.dK xs)
  | .dT xs => some (.dT xs)
  | _ => none
def cont (ρ S : List Sl) : Rv → Option D
  | .d (.ob j) => match S[j]? with
    | some (.lst xs) => some (.lst xs)
    | some (.dK xs) => some (.dK xs)
    | some (.dT xs) => some (.dT xs)
    | _ => some (.ob j)
  | .d d => some d
  | .env i => (ρ[i]?).bind Sl.rd
  | .fr s => s.rd
theorem Own.top {s : Sl} {v : V} {c : Cells} {d : D} (g : Good w) (hc : ∀ p ∈ c, w.H p.1 = some p.2) (h : Own Γ w.R w.F s v c) (e : s.rd = some d) : Top Γ w d v := by iterate
  cases s with
  | emp => cases e
  | val x => rw [Own] at h; cases e; exact h.2.top g
  | lst xs =>
    rw [Own] at h
    obtain ⟨a, ys, e1, q, l⟩ := h
    subst l
    cases e
    exact ⟨a, ys, e1, hc (a, _) (by simp), q⟩
  | dK xs =>
    rw [Own] at h
    obtain ⟨a, ys, e1, q, l⟩ := h
    subst l
    cases e
    exact ⟨a, ys, e1, hc (a, _) (by simp), q⟩
  | dT xs =>
    rw [Own] at h
    obtain ⟨a, ys, e1, q, l⟩ := h
    subst l
    cases e
    exact ⟨a, ys, e1, hc (a, _) (by simp), q⟩
  | ins _ _ => cases e
  | tab _ => cases e
  | rsv _ => cases e
  | cel _ _ => cases e
  | exn _ _ => cases e
theorem OwnAll.env_at {R : List Addr} {F : Hp} {E C : Cells} {ρ S : List Sl} {i : Nat} {s : Sl} (h : OwnAll Γ R F ρ S σ E C) (e : ρ[i]? = some s) : ∃ o A B b, σ[i]? = some o ∧ E = A ++ b ++ B ∧ OwnO Γ R F s o b ∧
    ∀ F', (∀ a o, F a = some o → F' a = some o) → ∀ s' o' b', OwnO Γ R F' s' o' b' → OwnAll Γ R F' (ρ.set i s') S (σ.set i o') (A ++ b' ++ B) C := by
  obtain ⟨o, A, B, b, h1, h2, h3, h4⟩ := h.1.at e
  exact ⟨o, A, B, b, h1, h2, h3, fun F' up s' o' b' z => ⟨h4 F' up s' o' b' z, h.2.up ⟨⟨[], by simp⟩, up⟩⟩⟩
theorem OwnAll.sto_at {R : List Addr} {F : Hp} {E C : Cells} {ρ S : List Sl} {i : Nat} {s : Sl} (h : OwnAll Γ R F ρ S σ E C) (e : S[i]? = some s) : ∃ a A B b, R[i]? = some a ∧ C = A ++ b ++ B ∧ OwnO Γ R F s (some (.ref a)) b ∧
    ∀ F', (∀ a o, F a = some o → F' a = some o) → ∀ s' b', OwnO Γ R F' s' (some (.ref a)) b' → OwnAll Γ R F' ρ (S.set i s') σ E (A ++ b' ++ B) := by
  obtain ⟨a, A, B, b, h1, h2, h3, h4⟩ := h.2.at e
  exact ⟨a, A, B, b, h1, h2, h3, fun F' up s' b' z => ⟨h.1.up ⟨⟨[], by simp⟩, up⟩, h4 F' up s' b' z⟩⟩
theorem Rel.cellsE {ρ S : List Sl} {A b B : Cells} (h : Rel Γ w ρ S σ) (e : w.E = A ++ b ++ B) : ∀ p ∈ b, w.H p.1 = some p.2 := fun p hp => (h.good.cell p (by rw [e]; simp [hp])).1
theorem Rel.cellsH {ρ S : List Sl} {A b B : Cells} (h : Rel Γ w ρ S σ) (e : w.C = A ++ b ++ B) : ∀ p ∈ b, w.H p.1 = some p.2 := fun p hp => (h.good.cell p (by rw [e]; simp [hp])).1
theorem Rel.top {ρ S : List Sl} {r : Rv} {v : V} {d : D} {w0 : Wd} (h : Rel Γ w ρ S σ) (o : RvOk Γ w0 w σ r v) (e : cont ρ S r = some d) : Top Γ w d v := by iterate
  cases r with
  | d x =>
    have plain : cont ρ S (.d x) = some x → Top Γ w d v := fun z => by
      rw [z] at e; cases e
      exact Rep.top h.good o
    cases x with
    | ob j =>
      cases q : S[j]? with
      | none => exact plain (by simp only [cont, q])
      | some s =>
        obtain ⟨a, A, B, b, h1, h2, h3, _⟩ := h.own.sto_at q
        have o' : Rep Γ w.R w.F (.ob j) v := o
        rw [Rep] at o'
        obtain ⟨a', e1, e2⟩ := o'
        rw [h1] at e1; cases e1
        subst e2
        cases s with
        | lst xs =>
          simp only [cont, q] at e
          obtain ⟨v, ev, ow⟩ := h3
          cases ev
          exact Own.top h.good (h.cellsH h2) ow e
        | dK xs =>
          simp only [cont, q] at e
          obtain ⟨v, ev, ow⟩ := h3
          cases ev
          exact Own.top h.good (h.cellsH h2) ow e
        | dT xs =>
          simp only [cont, q] at e
          obtain ⟨v, ev, ow⟩ := h3
          cases ev
          exact Own.top h.good (h.cellsH h2) ow e
        | emp => exact plain (by simp only [cont, q])
        | val _ => exact plain (by simp only [cont, q])
        | ins _ _ => exact plain (by simp only [cont, q])
        | tab _ => exact plain (by simp only [cont, q])
        | rsv _ => exact plain (by simp only [cont, q])
        | cel _ _ => exact plain (by simp only [cont, q])
        | exn _ _ => exact plain (by simp only [cont, q])
    | non => exact plain rfl
    | bl _ => exact plain rfl
    | int _ => exact plain rfl
    | str _ => exact plain rfl
    | ty _ => exact plain rfl
    | lst _ => exact plain rfl
    | kl _ => exact plain rfl
    | kt _ => exact plain rfl
    | tup _ => exact plain rfl
    | dK _ => exact plain rfl
    | dT _ => exact plain rfl
    | lt _ => exact plain rfl
    | ins _ _ => exact plain rfl
    | cl _ => exact plain rfl
    | fn _ => exact plain rfl
    | unk => exact plain rfl
  | env i =>
    have o' : σ[i]? = some (some v) := o
    have e' : (ρ[i]?).bind Sl.rd = some d := e
    cases q : ρ[i]? with
    | none => rw [q] at e'; cases e'
    | some s =>
      rw [q] at e'
      obtain ⟨o1, A, B, b, h1, h2, h3, _⟩ := h.own.env_at q
      rw [o'] at h1; cases h1
      have ne : s ≠ .emp := fun z => by subst z; cases e'
      obtain ⟨v', ev, ow⟩ := OwnO.of_ne h3 ne
      cases ev
      exact Own.top h.good (h.cellsE h2) ow e'
  | fr s =>
    obtain ⟨c, ow, f, _⟩ := o
    exact Own.top h.good (fun p hp => (f.at_ p hp).1) ow e
end
end DV
namespace DV
open PySem PySem.Spec PyProof.Rows L2
theorem _root_.L2.PE.imp {X : Cx} {e : Expr} {t t' : TE} (h : PE X e t) (k : ∀ σ H Q, t' σ H Q → t σ H Q) : PE X e t' := ⟨fun pins s σ H Q I hw => h.run pins s σ H Q I (k σ H Q hw)⟩
theorem _root_.L2.PT.imp {X : Cx} {e : Expr} {t t' : TT} (h : PT X e t) (k : ∀ σ H Q, t' σ H Q → t σ H Q) : PT X e t' := ⟨fun pins s σ H Q I hw => h.run pins s σ H Q I (k σ H Q hw)⟩
theorem _root_.L2.PA.imp {X : Cx} {e : List Expr} {t t' : TA} (h : PA X e t) (k : ∀ σ H Q, t' σ H Q → t σ H Q) : PA X e t' := ⟨fun pos pins s σ H Q I hw => h.run pos pins s σ H Q I (k σ H Q hw)⟩
theorem _root_.L2.PS.imp {X : Cx} {e : Stmt} {t t' : TS} (h : PS X e t) (k : ∀ D σ H, t' D σ H → t D σ H) : PS X e t' := ⟨fun pins s σ H D I hw => h.run pins s σ H D I (k D σ H hw)⟩
theorem _root_.L2.PSs.imp {X : Cx} {e : List Stmt} {t t' : TS} (h : PSs X e t) (k : ∀ D σ H, t' D σ H → t D σ H) : PSs X e t' := ⟨fun pins s σ H D I hw => h.run pins s σ H D I (k D σ H hw)⟩
section
variable {Γ : Gm} {W : WX} {w w0 w1 w2 : Wd} {σ : L2.St} {ρ S : List Sl} {p : Addr} {o : HO}
theorem Good.none_of (g : Good w) (h : w.H p = none) : w.F p = none ∧ p ∉ w.ad := by
  refine ⟨?_, fun z => ?_⟩
  · cases q : w.F p with
    | none => rfl
    | some o =>
      have e := g.sub _ _ q
      rw [h] at e; cases e
  · obtain ⟨q, hq, rfl⟩ := List.mem_map.mp z
    have e := (g.cell q hq).1
    rw [h] at e; cases e
theorem upd_none {H : Hp} {a b : Addr} (h : H p = none) (e : H a = some o) : ∀ u, upd H p u a = some o := fun u => by
  rw [upd_ne (ne_of_none e h)]; exact e
theorem Ext.new (g : Good w) (h : w.H p = none) : Ext w { w with H := upd w.H p o } where
  gr := .refl
  keep := fun a u e _ => upd_none (b := a) h e _
  cnew := fun _ z => .inl z
  fnew := fun _ _ z => .inl z
  live := fun a u e => ⟨u, upd_none (b := a) h e _⟩
theorem Good.new (g : Good w) (h : w.H p = none) : Good { w with H := upd w.H p o } :=
  ⟨fun a u e => upd_none (b := a) h (g.sub a u e) _, fun q hq => ⟨upd_none (b := p) h (g.cell q hq).1 _, (g.cell q hq).2⟩, g.nd⟩
theorem Fresh.new (g : Good w) (h : w.H p = none) (nt : ∀ ps, o ≠ .tbl ps) : Fresh { w with H := upd w.H p o } [(p, o)] := by
  obtain ⟨h1, h2⟩ := g.none_of h
  refine ⟨fun q hq => ?_, by simp⟩
  have e : q = (p, o) := by simpa using hq
  subst e
  exact ⟨upd_same, h1, h2⟩
/-- a new frozen object -/
theorem Ext.newF (g : Good w) (h : w.H p = none) : Ext w { w with F := upd w.F p o, H := upd w.H p o } where
  gr := ⟨⟨[], by simp⟩, fun a u e => upd_none (b := a) (g.none_of h).1 e _⟩
  keep := fun a u e _ => upd_none (b := a) h e _
  cnew := fun _ z => .inl z
  fnew := fun a u z => by
    by_cases e : a = p
    · subst e; exact .inr (.inl h)
    · have z : upd w.F p o a = some u := z
      rw [upd_ne e] at z
      exact .inl z
  live := fun a u e => ⟨u, upd_none (b := a) h e _⟩
theorem Good.newF (g : Good w) (h : w.H p = none) : Good { w with F := upd w.F p o, H := upd w.H p o } := by iterate
  refine ⟨fun a u e => ?_, fun q hq => ⟨upd_none (b := p) h (g.cell q hq).1 _, ?_⟩, g.nd⟩
  · by_cases z : a = p
    · subst z
      have e : upd w.F a o a = some u := e
      show upd w.H a o a = some u
      rw [upd_same] at e ⊢
      exact e
    · have e : upd w.F p o a = some u := e
      show upd w.H p o a = some u
      rw [upd_ne z] at e ⊢
      exact g.sub a u e
  · show upd w.F p o q.1 = none
    rw [upd_ne]
    · exact (g.cell q hq).2
    · intro z
      have e := (g.cell q hq).1
      rw [z, h] at e; cases e
theorem Rel.move (h : Rel Γ w ρ S σ) (x : Gr w.R w1.R w.F w1.F) (g : Good w1) (eE : w1.E = w.E) (eC : w1.C = w.C) (eR : w1.R = w.R) : Rel Γ w1 ρ S σ := by
  refine ⟨g, ?_⟩
  rw [eE, eC, eR]
  exact h.own.up x.f
theorem RelS.move (h : RelS Γ w S) (x : Gr w.R w1.R w.F w1.F) (g : Good w1) (eE : w1.E = w.E) (eC : w1.C = w.C) (eR : w1.R = w.R) : RelS Γ w1 S := by
  refine ⟨g, eE.trans h.noE, ?_⟩
  rw [eC, eR]
  exact h.own.up ⟨⟨[], by simp⟩, x.f⟩
def Sl.own? : Sl → Bool
  | .emp => false
  | _ => true
/-- to a datum -/
def toD (r : Rv) : M D := fun ρ S => match r with
  | .d d => .ok d ρ S false
  | .fr s => .ok s.frz ρ S false
  | .env i => match ρ[i]? with
    | some s => if s.own? then .ok s.frz (ρ.set i (.val s.frz)) S true else .bad
    | none => .bad
theorem set_same {α : Type} {l : List α} {i : Nat} {a : α} (h : l[i]? = some a) : l.set i a = l := by
  apply List.ext_getElem?
  intro j
  by_cases e : i = j
  · subst e
    rw [List.getElem?_set_self (List.getElem?_eq_some_iff.mp h).1, h]
  · rw [List.getElem?_set_ne e]
theorem OwnO.of_own {R : List Addr} {F : Hp} {s : Sl} {o : Option V} {c : Cells} (h : OwnO Γ R F s o c) (n : s.own? = true) : ∃ v, o = some v ∧ Own Γ R F s v c :=
  h.of_ne fun e => by subst e; cases n
/-- a slot's thing is frozen where it stands -/
theorem freeze_env {i : Nat} {s : Sl} {v : V} (h : Rel Γ w1 ρ S σ) (e : ρ[i]? = some s) (n : s.own? = true) (ev : σ[i]? = some (some v)) :
    ∃ w2, w2.H = w1.H ∧ Ext w1 w2 ∧ Rel Γ w2 (ρ.set i (.val s.frz)) S σ ∧ Rep Γ w2.R w2.F s.frz v ∧ w2.R = w1.R := by iterate
  obtain ⟨o, A, B, b, h1, h2, h3, h4⟩ := h.own.env_at e
  rw [ev] at h1; cases h1
  obtain ⟨v', e', ow⟩ := h3.of_own n
  cases e'
  have g := h.good
  have eAd : w1.ad = A.map (·.1) ++ b.map (·.1) ++ (B ++ w1.C).map (·.1) := by show (w1.E ++ w1.C).map _ = _; rw [h2]; simp
  have nd := g.nd
  rw [eAd] at nd
  obtain ⟨q1, q2, q3⟩ := List.nodup_append.mp nd
  obtain ⟨q4, ndb, q6⟩ := List.nodup_append.mp q1
  have up : ∀ a u, w1.F a = some u → addC w1.F b a = some u := addC_up fun p hp => (g.cell p (by rw [h2]; simp [hp])).2
  have sub : ∀ a u, addC w1.F b a = some u → w1.H a = some u := fun a u z => by
    rcases addC_cases z with z | z
    · exact (g.cell (a, u) (by rw [h2]; simp [z])).1
    · exact g.sub _ _ z
  have rep : Rep Γ w1.R (addC w1.F b) s.frz v := Own.frz up s v b (fun p hp => addC_of ndb hp) ow
  have mem : ∀ p, p ∈ A ++ B ++ w1.C → p ∈ w1.E ++ w1.C := fun p hp => by
    rw [h2]
    simp only [List.mem_append] at hp ⊢
    rcases hp with (z | z) | z <;> simp [z]
  have out : ∀ p, p ∈ A ++ B ++ w1.C → p.1 ∉ b.map (·.1) := fun p hp z => by
    have hp : p ∈ A ∨ p ∈ B ++ w1.C := by simp only [List.mem_append] at hp ⊢; rcases hp with (y | y) | y <;> simp [y]
    rcases hp with y | y
    · exact q6 _ (List.mem_map_of_mem y) _ z rfl
    · exact q3 _ (List.mem_append_right _ z) _ (List.mem_map_of_mem y) rfl
  refine ⟨⟨addC w1.F b, A ++ B, w1.C, w1.R, w1.H⟩, rfl, ⟨⟨⟨[], by simp⟩, up⟩, fun a u z _ => z, fun a z => ?_, fun a u z => ?_, fun a u z => ⟨u, z⟩⟩, ⟨⟨sub, fun p hp => ⟨(g.cell p (mem p hp)).1, ?_⟩, ?_⟩, ?_⟩, rep, rfl⟩
  · obtain ⟨p, hp, rfl⟩ := List.mem_map.mp z
    exact .inl (List.mem_map_of_mem (mem p hp))
  · rcases addC_cases z with z | z
    · exact .inr (.inr (.inl (List.mem_map_of_mem (f := (·.1)) (show (a, u) ∈ w1.E ++ w1.C by rw [h2]; simp [z]))))
    · exact .inl z
  · show addC w1.F b p.1 = none
    rw [addC_out (out p hp)]
    exact (g.cell p (mem p hp)).2
  · show ((A ++ B ++ w1.C).map (·.1)).Nodup
    rw [List.append_assoc, List.map_append]
    exact List.nodup_append.mpr ⟨q4, q2, fun a ha c hc => q3 a (List.mem_append_left _ ha) c hc⟩
  · have z := h4 (addC w1.F b) up (.val s.frz) (some v) [] ⟨v, rfl, by rw [Own]; exact ⟨rfl, rep⟩⟩
    rw [set_same ev] at z
    simpa using z
/-- a new thing is frozen -/
theorem freeze_fr {s : Sl} {v : V} (x : Ext w0 w1) (h : Good w1) (o : ∃ c, Own Γ w1.R w1.F s v c ∧ Fresh w1 c ∧ ∀ p ∈ c, w0.H p.1 = none ∨ p.1 ∈ w0.ad) :
    ∃ F', (∀ a u, w1.F a = some u → F' a = some u) ∧ Ext w0 { w1 with F := F' } ∧ Good { w1 with F := F' } ∧ Rep Γ w1.R F' s.frz v := by iterate
  obtain ⟨c, ow, f, b⟩ := o
  have up : ∀ a u, w1.F a = some u → addC w1.F c a = some u := addC_up fun p hp => (f.at_ p hp).2.1
  refine ⟨addC w1.F c, up, ⟨x.gr.trans ⟨⟨[], by simp⟩, up⟩, x.keep, x.cnew, fun a u z => ?_, x.live⟩, ⟨fun a u z => ?_, fun p hp => ⟨(h.cell p hp).1, ?_⟩, h.nd⟩, Own.frz up s v c (fun p hp => addC_of f.nd hp) ow⟩
  · rcases addC_cases z with z | z
    · exact .inr ((b (a, u) z).elim .inl fun z => .inr (.inl z))
    · exact x.fnew a u z
  · rcases addC_cases z with z | z
    · exact (f.at_ (a, u) z).1
    · exact h.sub _ _ z
  · show addC w1.F c p.1 = none
    rw [addC_out]
    · exact (h.cell p hp).2
    · intro z
      obtain ⟨q, hq, e⟩ := List.mem_map.mp z
      exact (f.at_ q hq).2.2 (by rw [e]; exact List.mem_map_of_mem hp)
/-- whatever it is, it becomes a datum -/
theorem toD_ok {r : Rv} {d : D} {ρ' S' : List Sl} {t : Bool} {v : V} (x : Ext w0 w1) (h : Rel Γ w1 ρ S σ) (o : RvOk Γ w0 w1 σ r v) (e : toD r ρ S = .ok d ρ' S' t) :
    ∃ w2, w2.H = w1.H ∧ Ext w0 w2 ∧ Rel Γ w2 ρ' S' σ ∧ Rep Γ w2.R w2.F d v ∧ (t = false → w2.E = w1.E) := by iterate
  cases r with
  | d x0 =>
    cases e
    exact ⟨w1, rfl, x, h, o, fun _ => rfl⟩
  | fr s =>
    cases e
    obtain ⟨F', up, x', g', rep⟩ := freeze_fr x h.good o
    exact ⟨{ w1 with F := F' }, rfl, x', h.move ⟨⟨[], by simp⟩, up⟩ g' rfl rfl rfl, rep, fun _ => rfl⟩
  | env i =>
    have o' : σ[i]? = some (some v) := o
    unfold toD at e
    cases q : ρ[i]? with
    | none => simp [q] at e
    | some s =>
      simp only [q] at e
      split at e
      · rename_i hs
        cases e
        obtain ⟨w2, e1, x2, r2, rep, _⟩ := freeze_env h q hs o'
        exact ⟨w2, e1, x.trans x2, r2, rep, fun z => nomatch z⟩
      · cases e
theorem toD_noex {r : Rv} {x : Exn} {ρ' S' : List Sl} : toD r ρ S ≠ .ex x ρ' S' := by
  unfold toD
  cases r with
  | d _ => simp
  | fr _ => simp
  | env i =>
    simp only
    split
    · split <;> simp
    · simp
/-- an expression's datum -/
def cD (c : M Rv) : M D := fun ρ S => (c ρ S).bind fun r ρ S => toD r ρ S
theorem CKd.of {c : M Rv} {Qd : D → V → Hp → Prop} {Q1 : VK} (h : CKd Γ W w σ Qd (cD c ρ S))
    (k : ∀ d ρ' S' t w' v, Ext w w' → (t = false → w'.E = w.E) → Rel Γ w' ρ' S' σ → Rep Γ w'.R w'.F d v → cD c ρ S = .ok d ρ' S' t → Q1 v w'.H) : CK Γ W w σ Q1 (c ρ S) := by iterate
  unfold cD at h k
  cases q : c ρ S with
  | ok r ρ1 S1 t1 =>
    rw [q] at h k
    intro w1 v x1 e1 r1 o1
    cases q2 : toD r ρ1 S1 with
    | ok d ρ2 S2 t2 =>
      obtain ⟨w2, eH, x2, r2, rep, e2⟩ := toD_ok x1 r1 o1 q2
      rw [← eH]
      refine k d ρ2 S2 (t1 || t2) w2 v x2 (fun z => ?_) r2 rep (by rw [Res.bind_ok, q2]; rfl)
      obtain ⟨z1, z2⟩ := Bool.or_eq_false_iff.mp z
      rw [e2 z2, e1 z1]
    | ex y ρ2 S2 => exact absurd q2 toD_noex
    | bad => rw [Res.bind_ok, q2] at h; exact h.elim
  | ex y ρ1 S1 => rw [q] at h; exact h
  | bad => rw [q] at h; exact h
end
end DV
namespace DV
open PySem PySem.Spec PyProof.Rows L2
/-- what a result of an operation owes -/
def PQ (Γ : Gm) (w : Wd) (Q : VK) : Option Rv → Prop
  | some r => ∀ w' v, Ext w w' → w'.E = w.E → w'.C = w.C → w'.R = w.R → Good w' → RvOk Γ w w' [] r v → Q v w'.H
  | none => False
def lift (o : Option Rv) : M Rv := fun ρ S => match o with
  | some r => .ok r ρ S false
  | none => .bad
section
variable {Γ : Gm} {W : WX} {w w0 w1 w2 : Wd} {σ : L2.St} {ρ S : List Sl} {Q : VK}
theorem RvOk.nil {r : Rv} {v : V} (h : RvOk Γ w0 w [] r v) : RvOk Γ w0 w σ r v := by
  cases r with
  | d _ => exact h
  | fr _ => exact h
  | env i =>
    have h : ([] : L2.St)[i]? = some (some v) := h
    simp at h
theorem CK.prim {o : Option Rv} (R : Rel Γ w ρ S σ) (h : CK Γ W w σ Q (lift o ρ S)) : PQ Γ w Q o := by
  cases o with
  | none => exact h
  | some r => exact fun w' v x eE eC eR g ok => h w' v x (fun _ => eE) (R.move x.gr g eE eC eR) ok.nil
theorem PQ.d {d : D} {v : V} (g : Good w) (h : PQ Γ w Q (some (.d d))) (r : Rep Γ w.R w.F d v) : Q v w.H := h w v (.refl w) rfl rfl rfl g r
theorem PQ.fr {s : Sl} {p : Addr} {o : HO} (g : Good w) (h : PQ Γ w Q (some (.fr s))) (hp : w.H p = none) (nt : ∀ ps, o ≠ .tbl ps) (ow : Own Γ w.R w.F s (.ref p) [(p, o)]) : Q (.ref p) (upd w.H p o) :=
  h { w with H := upd w.H p o } (.ref p) (.new g hp) rfl rfl rfl (.new g hp) ⟨_, ow, .new g hp nt, fun q hq => by
    have e : q = (p, o) := by simpa using hq
    subst e
    exact .inl hp⟩
theorem PQ.new {d : D} {p : Addr} {o : HO} (g : Good w) (h : PQ Γ w Q (some (.d d))) (hp : w.H p = none) (r : Rep Γ w.R (upd w.F p o) d (.ref p)) : Q (.ref p) (upd w.H p o) :=
  h { w with F := upd w.F p o, H := upd w.H p o } (.ref p) (.newF g hp) rfl rfl rfl (.newF g hp) r
theorem updF_up {F : Hp} {p : Addr} {o : HO} (h : F p = none) : ∀ a u, F a = some u → upd F p o a = some u := fun a u e => upd_none (b := a) h e _
end
/-- a two-place operation: what it gives, what its rule asks -/
def BinOk (Γ : Gm) (g : D → D → Option Rv) (r : R2) : Prop :=
  ∀ (w : Wd) (v1 v2 : V) (d1 d2 : D) (Q : VK), Good w → Top Γ w d1 v1 → Top Γ w d2 v2 → PQ Γ w Q (g d1 d2) → r v1 v2 w.H Q
def cBin (g : D → D → Option Rv) (ca cb : M Rv) : M Rv := fun ρ S => (ca ρ S).bind fun ra ρ S => (cb ρ S).bind fun rb ρ S =>
  match cont ρ S ra, cont ρ S rb with
  | some d1, some d2 => lift (g d1 d2) ρ S
  | _, _ => .bad
section
variable {X : Cx} {Γ : Gm} {W : WX} {a b c : Expr} {ca cb cc : M Rv} {pos : Pos}
theorem bin_core {g : D → D → Option Rv} {r : R2} (hg : BinOk Γ g r) {σ : L2.St} {H : Hp} {Q : VK} (h : tM Γ W (cBin g ca cb) σ H Q) : tOp r (tM Γ W ca) (tM Γ W cb) σ H Q := by iterate
  obtain ⟨F, E, C, R, ρ, S, rel, ck⟩ := h
  refine ⟨F, E, C, R, ρ, S, rel, CK.bind ck fun ra ρ1 S1 w1 v1 x1 rel1 o1 ck1 => ?_⟩
  refine ⟨w1.F, w1.E, w1.C, w1.R, ρ1, S1, rel1, CK.bind ck1 fun rb ρ2 S2 w2 v2 x2 rel2 o2 ck2 => ?_⟩
  cases e1 : cont ρ2 S2 ra with
  | none => simp only [e1] at ck2; exact ck2.elim
  | some d1 =>
    cases e2 : cont ρ2 S2 rb with
    | none => simp only [e1, e2] at ck2; exact ck2.elim
    | some d2 =>
      simp only [e1, e2] at ck2
      exact hg w2 v1 v2 d1 d2 Q rel2.good (rel2.top (o1.up x2) e1) (rel2.top o2 e2) (ck2.prim rel2)
theorem pm_bin {op : Operator} {g : D → D → Option Rv} {r : R2} (ho : OpR X (binaryOp op) r) (hg : BinOk Γ g r) (ha : PE X a (tM Γ W ca)) (hb : PE X b (tM Γ W cb)) : PE X (.BinOp a op b pos) (tM Γ W (cBin g ca cb)) :=
  (pe_op ho ha hb).imp fun _ _ _ h => bin_core hg h
theorem pm_cmp {op : CmpOp} {g : D → D → Option Rv} {r : R2} (ho : OpR X (compareOp op) r) (hg : BinOk Γ g r) (ha : PE X a (tM Γ W ca)) (hb : PE X b (tM Γ W cb)) (hm : behindInMarks op b = false) : PE X (.Compare a [op] [b] pos) (tM Γ W (cBin g ca cb)) :=
  (pe_cmpR ho ha hb hm).imp fun _ _ _ h => bin_core hg h
theorem pm_ix {g : D → D → Option Rv} {r : R2} (ho : IxR X r) (hg : BinOk Γ g r) (ha : PE X a (tM Γ W ca)) (hb : PE X b (tM Γ W cb)) (hs : PlainIx b) : PE X (.Subscript a b pos) (tM Γ W (cBin g ca cb)) :=
  (pe_ix ho ha hb hs).imp fun _ _ _ h => bin_core hg h
theorem BinOk.or {g g' : D → D → Option Rv} {r r' : R2} (h : BinOk Γ g r) (h' : BinOk Γ g' r') : BinOk Γ (fun x y => (g x y).or (g' x y)) (fun x y H Q => r x y H Q ∨ r' x y H Q) := by
  intro w v1 v2 d1 d2 Q gd t1 t2 q
  have q : PQ Γ w Q ((g d1 d2).or (g' d1 d2)) := q
  cases e : g d1 d2 with
  | none =>
    rw [e] at q
    exact .inr (h' w v1 v2 d1 d2 Q gd t1 t2 q)
  | some z =>
    rw [e] at q
    exact .inl (h w v1 v2 d1 d2 Q gd t1 t2 (by rw [e]; exact q))
end
def cName (i : Nat) : M Rv := fun ρ S => match ρ[i]? with
  | some (.val d) => .ok (.d d) ρ S false
  | some .emp => .bad
  | some _ => .ok (.env i) ρ S false
  | none => .bad
def cC (d : D) : M Rv := fun ρ S => .ok (.d d) ρ S false
section
variable {X : Cx} {Γ : Gm} {W : WX}
theorem pm_name (i : Nat) {x : Str} {pos : Pos} (hN : X.N[i]? = some x) (hv : Vis X.env.scope x) (hd : (x == ("__debug__" : Str)) = false := by decide) (hcd : (x == ("__classdict__" : Str)) = false := by decide) : PE X (.Name x pos) (tM Γ W (cName i)) := by iterate
  refine (pe_var hN hv hd hcd).imp fun σ H Q h => ?_
  obtain ⟨F, E, C, R, ρ, S, rel, ck⟩ := h
  unfold cName at ck
  cases q : ρ[i]? with
  | none => simp only [q] at ck; exact ck.elim
  | some s =>
    obtain ⟨o, A, B, b, h1, h2, h3, _⟩ := rel.own.env_at q
    have own : ∀ v, o = some v → CK Γ W ⟨F, E, C, R, H⟩ σ Q (.ok (.env i) ρ S false) → ∃ v, σ[i]? = some (some v) ∧ Q v H := fun v e ck => by
      subst e
      exact ⟨v, h1, ck ⟨F, E, C, R, H⟩ v (.refl _) (fun _ => rfl) rel h1⟩
    cases s with
    | emp => simp only [q] at ck; exact ck.elim
    | val d =>
      simp only [q] at ck
      obtain ⟨v, e, ow⟩ := h3
      subst e
      rw [Own] at ow
      exact ⟨v, h1, ck ⟨F, E, C, R, H⟩ v (.refl _) (fun _ => rfl) rel ow.2⟩
    | lst _ => simp only [q] at ck; obtain ⟨v, e, ow⟩ := h3; exact own v e ck
    | dK _ => simp only [q] at ck; obtain ⟨v, e, ow⟩ := h3; exact own v e ck
    | dT _ => simp only [q] at ck; obtain ⟨v, e, ow⟩ := h3; exact own v e ck
    | ins _ _ => simp only [q] at ck; obtain ⟨v, e, ow⟩ := h3; exact own v e ck
    | tab _ => simp only [q] at ck; obtain ⟨v, e, ow⟩ := h3; exact own v e ck
    | rsv _ => simp only [q] at ck; obtain ⟨v, e, ow⟩ := h3; exact own v e ck
    | cel _ _ => simp only [q] at ck; obtain ⟨v, e, ow⟩ := h3; exact own v e ck
    | exn _ _ => simp only [q] at ck; obtain ⟨v, e, ow⟩ := h3; exact own v e ck
theorem tC_of {v : V} {d : D} (hr : ∀ R F, Rep Γ R F d v) {σ : L2.St} {H : Hp} {Q : VK} (h : tM Γ W (cC d) σ H Q) : tC v σ H Q := by
  obtain ⟨F, E, C, R, ρ, S, rel, ck⟩ := h
  exact ck ⟨F, E, C, R, H⟩ v (.refl _) (fun _ => rfl) rel (hr R F)
theorem pm_int {i : Int} {j pos} : PE X (.Constant (.int i) j pos) (tM Γ W (cC (.int i))) := pe_int.imp fun _ _ _ h => tC_of (fun _ _ => by rw [Rep]) h
theorem pm_bl {i : Bool} {j pos} : PE X (.Constant (.bool i) j pos) (tM Γ W (cC (.bl i))) := pe_bl.imp fun _ _ _ h => tC_of (fun _ _ => by rw [Rep]) h
theorem pm_non {j pos} : PE X (.Constant .none j pos) (tM Γ W (cC .non)) := pe_non.imp fun _ _ _ h => tC_of (fun _ _ => by rw [Rep]) h
theorem pm_str {x : Str} {j pos} : PE X (.Constant (.str x) j pos) (tM Γ W (cC (.str x))) := pe_str.imp fun _ _ _ h => tC_of (fun _ _ => by rw [Rep]) h
/-- a module's constant, class, def -/
theorem pm_glob {x : Str} {v : V} {d : D} {u : Value} {pos : Pos} (hr : ∀ R F, Rep Γ R F d v) (hg : Gl X x) (hm : X.mg x = some u) (r : RelV v u) (hd : (x == ("__debug__" : Str)) = false := by decide) : PE X (.Name x pos) (tM Γ W (cC d)) :=
  (pe_glob hg hm r hd).imp fun _ _ _ h => tC_of hr h
theorem pm_bltn {x : Str} {v : V} {d : D} {u : Value} {pos : Pos} (hr : ∀ R F, Rep Γ R F d v) (hg : Gl X x) (hm : X.mg x = none) (hv : bootBuiltins x = some u) (r : RelV v u) (hn : x ≠ "__name__" := by decide) (hd : (x == ("__debug__" : Str)) = false := by decide) : PE X (.Name x pos) (tM Γ W (cC d)) :=
  (pe_bltn hg hm hv r hn hd).imp fun _ _ _ h => tC_of hr h
end
def oInt (g : Int → Int → Option D) : D → D → Option Rv
  | .int i, .int j => (g i j).map .d
  | _, _ => none
section
variable {Γ : Gm}
theorem top_int {w : Wd} {i : Int} {v : V} (h : Top Γ w (.int i) v) : v = .int i := by
  have h : Rep Γ w.R w.F (.int i) v := h
  rw [Rep] at h; exact h
theorem top_str {w : Wd} {i : Str} {v : V} (h : Top Γ w (.str i) v) : v = .str i := by
  have h : Rep Γ w.R w.F (.str i) v := h
  rw [Rep] at h; exact h
theorem top_bl {w : Wd} {i : Bool} {v : V} (h : Top Γ w (.bl i) v) : v = .bl i := by
  have h : Rep Γ w.R w.F (.bl i) v := h
  rw [Rep] at h; exact h
theorem top_non {w : Wd} {v : V} (h : Top Γ w .non v) : v = .non := by
  have h : Rep Γ w.R w.F .non v := h
  rw [Rep] at h; exact h
theorem top_ty {w : Wd} {n : String} {v : V} (h : Top Γ w (.ty n) v) : v = .ty n := by
  have h : Rep Γ w.R w.F (.ty n) v := h
  rw [Rep] at h; exact h
theorem top_cl {w : Wd} {n : Nat} {v : V} (h : Top Γ w (.cl n) v) : v = .ref (Γ.cA n) := by
  have h : Rep Γ w.R w.F (.cl n) v := h
  rw [Rep] at h; exact h
theorem top_tup {w : Wd} {xs : List D} {v : V} (h : Top Γ w (.tup xs) v) : ∃ a ys, v = .ref a ∧ w.F a = some (.tup ys) ∧ RepL Γ w.R w.F xs ys := by
  have h : Rep Γ w.R w.F (.tup xs) v := h
  rw [Rep] at h; exact h
theorem top_kt {w : Wd} {xs : List D} {v : V} (h : Top Γ w (.kt xs) v) : ∃ a ys, v = .ref a ∧ SqT Γ.K w.F a ys ∧ RepL Γ w.R w.F xs ys := by
  have h : Rep Γ w.R w.F (.kt xs) v := h
  rw [Rep] at h; exact h
theorem top_kl {w : Wd} {xs : List D} {v : V} (h : Top Γ w (.kl xs) v) : ∃ a ys, v = .ref a ∧ SqL Γ.K w.F a ys ∧ RepL Γ w.R w.F xs ys := by
  have h : Rep Γ w.R w.F (.kl xs) v := h
  rw [Rep] at h; exact h
theorem rep_int {R : List Addr} {F : Hp} {i : Int} : Rep Γ R F (.int i) (.int i) := by rw [Rep]
theorem rep_bl {R : List Addr} {F : Hp} {i : Bool} : Rep Γ R F (.bl i) (.bl i) := by rw [Rep]
theorem rep_str {R : List Addr} {F : Hp} {i : Str} : Rep Γ R F (.str i) (.str i) := by rw [Rep]
theorem rep_non {R : List Addr} {F : Hp} : Rep Γ R F .non .non := by rw [Rep]
/-- two ints to an int, under a decided condition -/
theorem binI {C : Int → Int → Prop} {g : Int → Int → V} {f : Int → Int → Option D} (h : ∀ i j d, f i j = some d → C i j ∧ ∀ R F, Rep Γ R F d (g i j)) : BinOk Γ (oInt f) (rI C g) := by
  intro w v1 v2 d1 d2 Q gd t1 t2 q
  cases d1 with
  | int i =>
    cases d2 with
    | int j =>
      simp only [oInt] at q
      cases e : f i j with
      | none => rw [e] at q; exact q.elim
      | some d =>
        rw [e] at q
        obtain ⟨hc, hr⟩ := h i j d e
        exact ⟨i, j, top_int t1, top_int t2, hc, q.d gd (hr _ _)⟩
    | _ => exact q.elim
  | _ => exact q.elim
theorem binI0 {g : Int → Int → V} {f : Int → Int → Option D} (h : ∀ i j d, f i j = some d → ∀ R F, Rep Γ R F d (g i j)) : BinOk Γ (oInt f) (rI0 g) := by
  intro w v1 v2 d1 d2 Q gd t1 t2 q
  cases d1 with
  | int i =>
    cases d2 with
    | int j =>
      simp only [oInt] at q
      cases e : f i j with
      | none => rw [e] at q; exact q.elim
      | some d =>
        rw [e] at q
        exact ⟨i, j, top_int t1, top_int t2, q.d gd (h i j d e _ _)⟩
    | _ => exact q.elim
  | _ => exact q.elim
end
def oAddI : D → D → Option Rv := oInt fun i j => some (.int (i + j))
def oAddS : D → D → Option Rv
  | .str x, .str y => if x.length + y.length ≤ sizeLine then some (.d (.str (x ++ y))) else none
  | _, _ => none
def oAddL : D → D → Option Rv
  | .lst x, .lst y => if x.length + y.length ≤ sizeLine then some (.fr (.lst (x ++ y))) else none
  | _, _ => none
def oAddT : D → D → Option Rv
  | .tup x, .tup y => if x.length + y.length ≤ sizeLine then (match x with | [] => none | _ :: _ => some (.d (.tup (x ++ y)))) else none
  | _, _ => none
def oAdd : D → D → Option Rv := fun a b => (oAddI a b).or ((oAddS a b).or ((oAddL a b).or (oAddT a b)))
def oSub : D → D → Option Rv := oInt fun i j => some (.int (i - j))
def oMulI : D → D → Option Rv := oInt fun i j => if i.natAbs < 2 ^ 64 ∨ j.natAbs < 2 ^ 64 ∨ (i.natAbs < 2 ^ 400000 ∧ j.natAbs < 2 ^ 400000) then some (.int (i * j)) else none
def oMulL : D → D → Option Rv
  | .lst x, .int k => if -(2 ^ 63) ≤ k ∧ k < 2 ^ 63 ∧ x.length * k.toNat ≤ sizeLine then some (.fr (.lst (List.replicate k.toNat x).flatten)) else none
  | _, _ => none
/-- a string, so many times -/
def repS (x : Str) (n : Nat) : Str := ⟨(List.replicate n x.cps.toList).flatten.toArray⟩
def oMulS : D → D → Option Rv
  | .str x, .int k => if -(2 ^ 63) ≤ k ∧ k < 2 ^ 63 ∧ x.length * k.toNat ≤ sizeLine then some (.d (.str (repS x k.toNat))) else none
  | _, _ => none
def oMul : D → D → Option Rv := fun a b => (oMulI a b).or ((oMulL a b).or (oMulS a b))
def oFdiv : D → D → Option Rv := oInt fun i j => if 0 < j ∧ j < 1152921504606846976 then some (.int (i / j)) else none
def oMod : D → D → Option Rv := oInt fun i j => if 0 < j then some (.int (i % j)) else none
def oPow : D → D → Option Rv := oInt fun i j => if 0 ≤ j ∧ j ≤ 1000000 ∧ i.natAbs < 2 ^ 64 then some (.int (i ^ j.toNat)) else none
def oLt : D → D → Option Rv := oInt fun i j => some (.bl (decide (i < j)))
def oLe : D → D → Option Rv := oInt fun i j => some (.bl (decide (i ≤ j)))
def oGt : D → D → Option Rv := oInt fun i j => some (.bl (decide (j < i)))
def oGe : D → D → Option Rv := oInt fun i j => some (.bl (decide (j ≤ i)))
section
variable {Γ : Gm} {X : Cx}
theorem bAddI : BinOk Γ oAddI (rI0 fun i j => .int (i + j)) := binI0 fun i j d e R F => by cases e; exact rep_int
theorem bLt : BinOk Γ oLt (rI0 fun i j => .bl (decide (i < j))) := binI0 fun i j d e R F => by cases e; exact rep_bl
theorem bGt : BinOk Γ oGt (rI0 fun i j => .bl (decide (j < i))) := binI0 fun i j d e R F => by cases e; exact rep_bl
theorem bGe : BinOk Γ oGe (rI0 fun i j => .bl (decide (j ≤ i))) := binI0 fun i j d e R F => by cases e; exact rep_bl
theorem bFdiv : BinOk Γ oFdiv (rI CDivW fun i j => .int (i / j)) := binI fun i j d e => by
  split at e
  · rename_i h
    cases e; exact ⟨wide_div (b := 64) h.1 (by omega) (by decide) (by decide), fun _ _ => rep_int⟩
  · cases e
theorem bMod : BinOk Γ oMod (rI (fun _ j => 0 < j) fun i j => .int (i % j)) := binI fun i j d e => by
  split at e
  · cases e; exact ⟨by assumption, fun _ _ => rep_int⟩
  · cases e
theorem bPow : BinOk Γ oPow (rI CPow fun i j => .int (i ^ j.toNat)) := binI fun i j d e => by
  split at e
  · cases e; exact ⟨by assumption, fun _ _ => rep_int⟩
  · cases e
theorem two_sides {i : Int} (h : i.natAbs < 2 ^ 64) : -(2 ^ 64) < i ∧ i < 2 ^ 64 := by omega
theorem bMulI : BinOk Γ oMulI (fun x y H Q => rI CMul (fun i j => .int (i * j)) x y H Q ∨ rI CMulW (fun i j => .int (i * j)) x y H Q) := by iterate
  intro w v1 v2 d1 d2 Q gd t1 t2 q
  cases d1 with
  | int i =>
    cases d2 with
    | int j =>
      simp only [oMulI, oInt] at q
      split at q
      · rename_i h
        have q' := q.d gd rep_int
        rcases h with h | h | h
        · exact .inl ⟨i, j, top_int t1, top_int t2, .inl (two_sides h), q'⟩
        · exact .inl ⟨i, j, top_int t1, top_int t2, .inr (two_sides h), q'⟩
        · exact .inr ⟨i, j, top_int t1, top_int t2, wide_mul h.1 h.2 (by decide) (by decide) (by decide), q'⟩
      · exact q.elim
    | _ => exact q.elim
  | _ => exact q.elim
theorem bAddS : BinOk Γ oAddS (fun x y H Q => ∃ i j, x = .str i ∧ y = .str j ∧ i.length + j.length ≤ sizeLine ∧ Q (.str (i ++ j)) H) := by
  intro w v1 v2 d1 d2 Q gd t1 t2 q
  cases d1 with
  | str i =>
    cases d2 with
    | str j =>
      simp only [oAddS] at q
      split at q
      · exact ⟨i, j, top_str t1, top_str t2, by assumption, q.d gd rep_str⟩
      · exact q.elim
    | _ => exact q.elim
  | _ => exact q.elim
theorem RepL.app {R : List Addr} {F : Hp} : ∀ {xs : List D} {xs' : List V} {ys : List D} {ys' : List V}, RepL Γ R F xs xs' → RepL Γ R F ys ys' → RepL Γ R F (xs ++ ys) (xs' ++ ys')
  | [], _, _, _, h, k => by rw [RepL] at h; subst h; exact k
  | x :: xs, _, ys, ys', h, k => by
    rw [RepL] at h
    obtain ⟨y, r, e, q, l⟩ := h
    subst e
    rw [List.cons_append, RepL]
    exact ⟨y, r ++ ys', rfl, q, l.app k⟩
theorem RepL.rep {R : List Addr} {F : Hp} {xs : List D} {xs' : List V} (h : RepL Γ R F xs xs') : ∀ k : Nat, RepL Γ R F (List.replicate k xs).flatten (List.replicate k xs').flatten
  | 0 => by show RepL Γ R F [] []; rw [RepL]
  | k + 1 => by rw [List.replicate_succ, List.replicate_succ, List.flatten_cons, List.flatten_cons]; exact h.app (h.rep k)
theorem bAddL : BinOk Γ oAddL rCat := by iterate
  intro w v1 v2 d1 d2 Q gd t1 t2 q
  cases d1 with
  | lst i =>
    cases d2 with
    | lst j =>
      simp only [oAddL] at q
      split at q
      · rename_i hl
        obtain ⟨a, ys, e, h1, l1⟩ := t1
        obtain ⟨b, zs, e', h2, l2⟩ := t2
        have n1 := l1.length
        have n2 := l2.length
        refine ⟨a, b, ys, zs, e, e', h1, h2, by omega, fun p hp => q.fr gd hp (fun ps z => nomatch z) ?_⟩
        rw [Own]
        exact ⟨p, _, rfl, l1.app l2, rfl⟩
      · exact q.elim
    | _ => exact q.elim
  | _ => exact q.elim
theorem bMulL : BinOk Γ oMulL rRep := by iterate
  intro w v1 v2 d1 d2 Q gd t1 t2 q
  cases d1 with
  | lst i =>
    cases d2 with
    | int j =>
      simp only [oMulL] at q
      split at q
      · rename_i hl
        obtain ⟨a, ys, e, h1, l1⟩ := t1
        have n1 := l1.length
        refine ⟨a, j, ys, e, top_int t2, h1, hl.1, hl.2.1, by rw [← n1]; exact hl.2.2, fun p hp => q.fr gd hp (fun ps z => nomatch z) ?_⟩
        rw [Own]
        exact ⟨p, _, rfl, l1.rep _, rfl⟩
      · exact q.elim
    | _ => exact q.elim
  | _ => exact q.elim
theorem repS_fold (c : Array Nat) : ∀ (n : Nat) (acc : Array Nat), (List.replicate n c).foldl (· ++ ·) acc = acc ++ (List.replicate n c.toList).flatten.toArray
  | 0, acc => by simp
  | n + 1, acc => by
    rw [List.replicate_succ, List.foldl_cons, repS_fold c n, List.replicate_succ, List.flatten_cons, Array.append_assoc]
    apply Array.toList_inj.mp
    simp only [Array.toList_append, List.append_assoc]
theorem repS_eq (x : Str) (k : Int) : (if k < 1 then Str.empty else if (k == 1 || x.length == 0) = true then x else ⟨(List.replicate k.toNat x.cps).foldl (· ++ ·) #[]⟩) = repS x k.toNat := by iterate
  unfold repS
  split
  · rename_i h
    rw [show k.toNat = 0 by omega]
    rfl
  · split
    · rename_i h1 h
      rcases Bool.or_eq_true_iff.mp h with h | h
      · have : k = 1 := by simpa using h
        subst this
        show x = ⟨_⟩
        simp
      · have : x.length = 0 := by simpa using h
        have h0 : x.cps.toList = [] := by
          have : x.cps.size = 0 := this
          simpa using this
        rw [h0]
        have : (List.replicate k.toNat ([] : List Nat)).flatten = [] := by simp
        rw [this]
        have : x.cps = #[] := by simpa using h0
        show x = ⟨_⟩
        rw [← this]
    · rw [repS_fold]
      simp
abbrev rMulS : R2 := fun x y H Q => ∃ i k, x = .str i ∧ y = .int k ∧ -(2 ^ 63) ≤ k ∧ k < 2 ^ 63 ∧ i.length * k.toNat ≤ sizeLine ∧ Q (.str (repS i k.toNat)) H
theorem op_mulS {X : Cx} : OpR X (binaryOp .Mult) rMulS := by iterate
  intro pins s σ H x y v u Q I rx ry h
  obtain ⟨i, k, rfl, rfl, h1, h2, hz, q⟩ := h
  obtain ⟨t, rfl⟩ := rx
  obtain ⟨t', rfl⟩ := ry
  have hz2 : i.length * k.toNat ≤ 16777216 := by rw [sizeLine_eq] at hz; exact hz
  rw [← repS_eq] at q
  refine PySem.P.mul_str (by rw [decide_eq_false (by omega), decide_eq_false (by omega)]; rfl) (fun h3 h4 h5 => ?_) (fun _ _ => decide_eq_false (Nat.not_lt.mpr hz)) ?_
  · have h7 : (i.length : Int) * k ≤ 16777216 := by
      have := Int.ofNat_le.mpr hz2
      rw [Int.natCast_mul, Int.toNat_of_nonneg (by omega)] at this
      generalize (i.length : Int) * k = z at this ⊢
      omega
    have h8 : (2 ^ 63 - 1) / k * k ≤ 2 ^ 63 - 1 := Int.ediv_mul_le _ (by omega)
    have h9 : ((2 ^ 63 - 1) / k + 1) * k ≤ (i.length : Int) * k := Int.mul_le_mul_of_nonneg_right (by omega) (by omega)
    have h10 : 2 ^ 63 - 1 < ((2 ^ 63 - 1) / k + 1) * k := Int.lt_ediv_add_one_mul_self _ (by omega)
    omega
  · split at q
    · rename_i h3
      rw [if_pos h3]
      exact ⟨by decide, .str Str.empty, H, I.tok _, ⟨_, rfl⟩, q⟩
    · rename_i h3
      rw [if_neg h3]
      split at q
      · rename_i h4
        rw [if_pos h4]
        exact ⟨.str i, H, I, ⟨_, rfl⟩, q⟩
      · rename_i h4
        rw [if_neg h4]
        refine ⟨?_, .str _, H, I.tok _, ⟨_, rfl⟩, q⟩
        exact PySem.fits_reps (decide_eq_false (Nat.not_lt.mpr hz))
theorem bMulS : BinOk Γ oMulS rMulS := by
  intro w v1 v2 d1 d2 Q gd t1 t2 q
  cases d1 with
  | str i =>
    cases d2 with
    | int j =>
      simp only [oMulS] at q
      split at q
      · rename_i hl
        exact ⟨i, j, top_str t1, top_int t2, hl.1, hl.2.1, hl.2.2, q.d gd rep_str⟩
      · exact q.elim
    | _ => exact q.elim
  | _ => exact q.elim
theorem RepL.ne {R : List Addr} {F : Hp} {x : D} {xs : List D} {ys : List V} (h : RepL Γ R F (x :: xs) ys) : ys ≠ [] := by
  rw [RepL] at h
  obtain ⟨y, r, e, _⟩ := h
  rw [e]; simp
theorem bAddT : BinOk Γ oAddT (rCatT X.K) := by iterate
  intro w v1 v2 d1 d2 Q gd t1 t2 q
  cases d1 with
  | tup i =>
    cases d2 with
    | tup j =>
      simp only [oAddT] at q
      split at q
      · rename_i hl
        obtain ⟨a, ys, e, h1, l1⟩ := top_tup t1
        obtain ⟨b, zs, e', h2, l2⟩ := top_tup t2
        have n1 := l1.length
        have n2 := l2.length
        cases i with
        | nil => exact q.elim
        | cons x i =>
          have hz : ∀ p, w.H p = none → Q (.ref p) (upd w.H p (.tup (ys ++ zs))) := fun p hp => q.new gd hp (by
            rw [Rep]
            refine ⟨p, _, rfl, upd_same, (l1.app l2).up ⟨⟨[], by simp⟩, updF_up (gd.none_of hp).1⟩⟩)
          refine ⟨a, b, ys, zs, e, e', SqT.of (gd.sub _ _ h1), SqT.of (gd.sub _ _ h2), l1.ne, by omega, fun z => ?_, fun _ p hp => hz p hp⟩
          subst z
          have e2 : j = [] := by
            cases j with
            | nil => rfl
            | cons _ _ => exact absurd rfl l2.ne
          subst e2
          rw [List.append_nil] at q
          exact q.d gd (by rw [Rep]; exact ⟨a, ys, rfl, h1, l1⟩)
      · exact q.elim
    | _ => exact q.elim
  | _ => exact q.elim
end
end DV
namespace DV
open PySem PySem.Spec PyProof.Rows L2
def D.sc : D → Option V
  | .non => some .non
  | .bl b => some (.bl b)
  | .int i => some (.int i)
  | .str x => some (.str x)
  | _ => none
mutual
def dat : D → Option PyData
  | .non => some .none
  | .bl b => some (.bool b)
  | .int i => some (.int i)
  | .str x => some (.str x)
  | .lst xs => (datL xs).map .list
  | .tup xs => (datL xs).map .tuple
  | .kl xs => (datL xs).map .list
  | .kt xs => (datL xs).map .tuple
  | _ => none
def datL : List D → Option (List PyData)
  | [] => some []
  | x :: xs => match dat x, datL xs with
    | some p, some ps => some (p :: ps)
    | _, _ => none
end
def oEqS (neg : Bool) (d e : D) : Option Rv := match d.sc, e.sc with
  | some x, some y => if scal x y = true then some (.d (.bl (neg != decide (x = y)))) else none
  | _, _ => none
def oEqD (neg : Bool) (d e : D) : Option Rv := match dat d, dat e with
  | some p, some q => if SeqAt.shaped p = true ∧ SeqAt.shaped q = true then some (.d (.bl (neg != PyData.eqv p q))) else none
  | _, _ => none
section
variable {Γ : Gm} {w : Wd}
theorem Rep.scal {R : List Addr} {F : Hp} {d : D} {v x : V} (e : d.sc = some x) (h : Rep Γ R F d v) : v = x := by
  cases d <;> simp only [D.sc, Option.some.injEq, reduceCtorEq] at e <;> subst e <;> rw [Rep] at h <;> exact h
theorem Top.scal {d : D} {v x : V} (e : d.sc = some x) (h : Top Γ w d v) : v = x := by
  cases d <;> first
    | (exact Rep.scal (Γ := Γ) (R := w.R) (F := w.F) e h)
    | (simp [D.sc] at e)
mutual
theorem Rep.dp (g : Good w) : ∀ (d : D) (v : V) (p : PyData), dat d = some p → Rep Γ w.R w.F d v → Dp Γ.K w.H v p
  | .non, v, p, e, h => by rw [dat] at e; cases e; rw [Rep] at h; subst h; exact .non
  | .bl b, v, p, e, h => by rw [dat] at e; cases e; rw [Rep] at h; subst h; exact .bl b
  | .int b, v, p, e, h => by rw [dat] at e; cases e; rw [Rep] at h; subst h; exact .int b
  | .str b, v, p, e, h => by rw [dat] at e; cases e; rw [Rep] at h; subst h; exact .str b
  | .lst xs, v, p, e, h => by
    rw [dat] at e
    obtain ⟨ps, e1, e2⟩ := Option.map_eq_some_iff.mp e
    subst e2
    rw [Rep] at h
    obtain ⟨a, ys, ev, q, l⟩ := h
    subst ev
    exact .lst (SqL.of (g.sub _ _ q)) (RepL.dp g xs ys ps e1 l)
  | .kl xs, v, p, e, h => by
    rw [dat] at e
    obtain ⟨ps, e1, e2⟩ := Option.map_eq_some_iff.mp e
    subst e2
    rw [Rep] at h
    obtain ⟨a, ys, ev, q, l⟩ := h
    subst ev
    exact .lst (SqL.up g.sub q) (RepL.dp g xs ys ps e1 l)
  | .tup xs, v, p, e, h => by
    rw [dat] at e
    obtain ⟨ps, e1, e2⟩ := Option.map_eq_some_iff.mp e
    subst e2
    rw [Rep] at h
    obtain ⟨a, ys, ev, q, l⟩ := h
    subst ev
    exact .tup (SqT.of (g.sub _ _ q)) (RepL.dp g xs ys ps e1 l)
  | .kt xs, v, p, e, h => by
    rw [dat] at e
    obtain ⟨ps, e1, e2⟩ := Option.map_eq_some_iff.mp e
    subst e2
    rw [Rep] at h
    obtain ⟨a, ys, ev, q, l⟩ := h
    subst ev
    exact .tup (SqT.up g.sub q) (RepL.dp g xs ys ps e1 l)
  | .ty _, v, p, e, h => by rw [dat] at e <;> first | cases e | (intros; simp)
  | .dK _, v, p, e, h => by rw [dat] at e <;> first | cases e | (intros; simp)
  | .dT _, v, p, e, h => by rw [dat] at e <;> first | cases e | (intros; simp)
  | .ins _ _, v, p, e, h => by rw [dat] at e <;> first | cases e | (intros; simp)
  | .ob _, v, p, e, h => by rw [dat] at e <;> first | cases e | (intros; simp)
  | .cl _, v, p, e, h => by rw [dat] at e <;> first | cases e | (intros; simp)
  | .fn _, v, p, e, h => by rw [dat] at e <;> first | cases e | (intros; simp)
  | .unk, v, p, e, h => by rw [dat] at e <;> first | cases e | (intros; simp)
theorem RepL.dp (g : Good w) : ∀ (xs : List D) (ys : List V) (ps : List PyData), datL xs = some ps → RepL Γ w.R w.F xs ys → DpAll Γ.K w.H ys ps
  | [], ys, ps, e, h => by
    rw [datL] at e
    cases e
    rw [RepL] at h
    subst h
    exact .nil
  | x :: xs, ys, ps, e, h => by
    rw [datL] at e
    split at e
    · rename_i p ps' e1 e2
      cases e
      rw [RepL] at h
      obtain ⟨y, r, e3, q, l⟩ := h
      subst e3
      exact .cons (Rep.dp g x y p e1 q) (RepL.dp g xs r ps' e2 l)
    · cases e
end
theorem Top.dp (g : Good w) {d : D} {v : V} {p : PyData} (e : dat d = some p) (h : Top Γ w d v) : Dp Γ.K w.H v p := by iterate
  cases d with
  | lst xs =>
    rw [dat] at e
    obtain ⟨ps, e1, e2⟩ := Option.map_eq_some_iff.mp e
    subst e2
    obtain ⟨a, ys, ev, q, l⟩ := h
    subst ev
    exact .lst (SqL.of q) (RepL.dp g xs ys ps e1 l)
  | dK xs => rw [dat] at e <;> first | cases e | (intros; simp)
  | dT xs => rw [dat] at e <;> first | cases e | (intros; simp)
  | non => exact Rep.dp g _ _ _ e h
  | bl _ => exact Rep.dp g _ _ _ e h
  | int _ => exact Rep.dp g _ _ _ e h
  | str _ => exact Rep.dp g _ _ _ e h
  | ty _ => exact Rep.dp g _ _ _ e h
  | lt _ => exact Rep.dp g _ _ _ e h
  | tup _ => exact Rep.dp g _ _ _ e h
  | kl _ => exact Rep.dp g _ _ _ e h
  | kt _ => exact Rep.dp g _ _ _ e h
  | ins _ _ => exact Rep.dp g _ _ _ e h
  | ob _ => exact Rep.dp g _ _ _ e h
  | cl _ => exact Rep.dp g _ _ _ e h
  | fn _ => exact Rep.dp g _ _ _ e h
  | unk => exact Rep.dp g _ _ _ e h
theorem bEqS : BinOk Γ (oEqS false) rEq := by
  intro w v1 v2 d1 d2 Q gd t1 t2 q
  unfold oEqS at q
  split at q
  · rename_i x y e1 e2
    split at q
    · rename_i hs
      rw [t1.scal e1, t2.scal e2]
      exact ⟨hs, by have := q.d gd rep_bl; simpa using this⟩
    · exact q.elim
  · exact q.elim
theorem bNeS : BinOk Γ (oEqS true) rNe := by
  intro w v1 v2 d1 d2 Q gd t1 t2 q
  unfold oEqS at q
  split at q
  · rename_i x y e1 e2
    split at q
    · rename_i hs
      rw [t1.scal e1, t2.scal e2]
      exact ⟨hs, by have := q.d gd rep_bl; simpa using this⟩
    · exact q.elim
  · exact q.elim
theorem bEqD : BinOk Γ (oEqD false) (rEqD Γ.K) := by
  intro w v1 v2 d1 d2 Q gd t1 t2 q
  unfold oEqD at q
  split at q
  · rename_i x y e1 e2
    split at q
    · rename_i hs
      exact ⟨x, y, t1.dp gd e1, t2.dp gd e2, hs.1, hs.2, by have := q.d gd rep_bl; simpa using this⟩
    · exact q.elim
  · exact q.elim
theorem bNeD : BinOk Γ (oEqD true) (rNeD Γ.K) := by
  intro w v1 v2 d1 d2 Q gd t1 t2 q
  unfold oEqD at q
  split at q
  · rename_i x y e1 e2
    split at q
    · rename_i hs
      exact ⟨x, y, t1.dp gd e1, t2.dp gd e2, hs.1, hs.2, by have := q.d gd rep_bl; simpa using this⟩
    · exact q.elim
  · exact q.elim
end
def oEq (neg : Bool) : D → D → Option Rv := fun d e => (oEqS neg d e).or (oEqD neg d e)
def scL : List D → Option (List V)
  | [] => some []
  | x :: xs => match x.sc, scL xs with
    | some p, some ps => some (p :: ps)
    | _, _ => none
def D.items : D → Option (List D)
  | .lst xs => some xs
  | .tup xs => some xs
  | .kl xs => some xs
  | .kt xs => some xs
  | _ => none
def oInL (neg : Bool) (x y : D) : Option Rv := match x.sc, y.items.bind scL with
  | some v, some vs => some (.d (.bl (if neg then !inV v vs else inV v vs)))
  | _, _ => none
def oInS (neg : Bool) : D → D → Option Rv
  | .str i, .str j => some (.d (.bl (neg != !(Builtin.Str.occurrences j i 0 j.length 1).isEmpty)))
  | _, _ => none
def keyD : D → Option Key
  | .int i => some (.inl i)
  | .str x => some (.inr x)
  | _ => none
def keysD : List D → Option (List Key)
  | [] => some []
  | x :: xs => match keyD x, keysD xs with
    | some p, some ps => some (p :: ps)
    | _, _ => none
def luk {κ : Type} [DecidableEq κ] (kvs : List (κ × D)) (k : κ) : Option D := (kvs.find? fun kv => decide (kv.1 = k)).map (·.2)
/-- what a dict has at a key -/
def dGet : D → D → Option (Option D)
  | .dK kvs, k => (keyD k).map fun k => luk kvs k
  | .dT kvs, .tup ks => (keysD ks).map fun ks => luk kvs ks
  | .lt kvs, .tup ks => (keysD ks).map fun ks => luk kvs ks
  | _, _ => none
def oInD (neg : Bool) (x y : D) : Option Rv := (dGet y x).map fun o => .d (.bl (neg != o.isSome))
def oIn (neg : Bool) : D → D → Option Rv := fun x y => (oInL neg x y).or ((oInS neg x y).or (oInD neg x y))
section
variable {Γ : Gm} {w : Wd}
theorem sc_flat {d : D} {v : V} (e : d.sc = some v) : flatV v = true := by
  cases d <;> simp only [D.sc, Option.some.injEq, reduceCtorEq] at e <;> subst e <;> rfl
theorem RepL.scL {R : List Addr} {F : Hp} : ∀ {xs : List D} {ys vs : List V}, scL xs = some vs → RepL Γ R F xs ys → ys = vs ∧ vs.all flatV = true
  | [], ys, vs, e, h => by
    rw [DV.scL] at e
    cases e
    rw [RepL] at h
    exact ⟨h, rfl⟩
  | x :: xs, ys, vs, e, h => by
    rw [DV.scL] at e
    split at e
    · rename_i p ps e1 e2
      cases e
      rw [RepL] at h
      obtain ⟨y, r, e3, q, l⟩ := h
      obtain ⟨e4, f⟩ := RepL.scL e2 l
      subst e3 e4
      rw [Rep.scal e1 q]
      exact ⟨rfl, by rw [List.all_cons, sc_flat e1, f]; rfl⟩
    · cases e
theorem top_seq (g : Good w) {y : D} {xs : List D} {v : V} (e : y.items = some xs) (h : Top Γ w y v) : ∃ a ys, v = .ref a ∧ (SqL Γ.K w.H a ys ∨ SqT Γ.K w.H a ys) ∧ RepL Γ w.R w.F xs ys := by iterate
  cases y with
  | lst zs => cases e; obtain ⟨a, ys, e1, q, l⟩ := h; exact ⟨a, ys, e1, .inl (SqL.of q), l⟩
  | tup zs => cases e; obtain ⟨a, ys, e1, q, l⟩ := top_tup h; exact ⟨a, ys, e1, .inr (SqT.of (g.sub _ _ q)), l⟩
  | kl zs => cases e; obtain ⟨a, ys, e1, q, l⟩ := top_kl h; exact ⟨a, ys, e1, .inl (SqL.up g.sub q), l⟩
  | kt zs => cases e; obtain ⟨a, ys, e1, q, l⟩ := top_kt h; exact ⟨a, ys, e1, .inr (SqT.up g.sub q), l⟩
  | _ => cases e
theorem bInL (neg : Bool) : BinOk Γ (oInL neg) (rIn Γ.K neg) := by
  intro w v1 v2 d1 d2 Q gd t1 t2 q
  unfold oInL at q
  split at q
  · rename_i x vs e1 e2
    obtain ⟨xs, e3, e4⟩ := Option.bind_eq_some_iff.mp e2
    obtain ⟨a, ys, ev, hs, l⟩ := top_seq gd e3 t2
    obtain ⟨e5, f⟩ := l.scL e4
    subst e5
    rw [t1.scal e1]
    exact ⟨a, ys, ev, hs, sc_flat e1, f, q.d gd rep_bl⟩
  · exact q.elim
theorem bInS : BinOk Γ (oInS false) (fun x y H Q => ∃ i j, x = .str i ∧ y = .str j ∧ Q (.bl (!(Builtin.Str.occurrences j i 0 j.length 1).isEmpty)) H) := by
  intro w v1 v2 d1 d2 Q gd t1 t2 q
  cases d1 with
  | str i =>
    cases d2 with
    | str j =>
      have := q.d gd rep_bl
      exact ⟨i, j, top_str t1, top_str t2, by simpa using this⟩
    | _ => exact q.elim
  | _ => exact q.elim
/-- what is at a key: nothing on both sides, or a datum and its value -/
def RepO (Γ : Gm) (R : List Addr) (F : Hp) : Option D → Option V → Prop
  | some d, some v => Rep Γ R F d v
  | none, none => True
  | _, _ => False
theorem RepO.some_of {R : List Addr} {F : Hp} {o : Option D} {o' : Option V} (h : RepO Γ R F o o') : o.isSome = o'.isSome := by
  cases o <;> cases o' <;> first | rfl | exact h.elim
theorem RepK.luk {R : List Addr} {F : Hp} (k : Key) : ∀ {kvs : List (Key × D)} {ys : List (Key × V)}, RepK Γ R F kvs ys → RepO Γ R F (DV.luk kvs k) (valV ys k)
  | [], ys, h => by rw [RepK] at h; subst h; exact True.intro
  | (j, x) :: xs, ys, h => by
    rw [RepK] at h
    obtain ⟨y, r, e, q, l⟩ := h
    subst e
    by_cases z : j = k
    · rw [valV_pos (p := (j, y)) z]
      simp [DV.luk, z, RepO, q]
    · rw [valV_neg (p := (j, y)) z]
      have ih := RepK.luk k l
      simpa [DV.luk, List.find?_cons, z] using ih
theorem RepT.luk {R : List Addr} {F : Hp} (k : List Key) : ∀ {kvs : List (List Key × D)} {ys : List (List Key × V)}, RepT Γ R F kvs ys → RepO Γ R F (DV.luk kvs k) (valV ys k)
  | [], ys, h => by rw [RepT] at h; subst h; exact True.intro
  | (j, x) :: xs, ys, h => by
    rw [RepT] at h
    obtain ⟨y, r, e, q, l⟩ := h
    subst e
    by_cases z : j = k
    · rw [valV_pos (p := (j, y)) z]
      simp [DV.luk, z, RepO, q]
    · rw [valV_neg (p := (j, y)) z]
      have ih := RepT.luk k l
      simpa [DV.luk, List.find?_cons, z] using ih
theorem keyD_of {R : List Addr} {F : Hp} {d : D} {k : Key} {v : V} (e : keyD d = some k) (h : Rep Γ R F d v) : v = kV k := by
  cases d <;> simp only [keyD, Option.some.injEq, reduceCtorEq] at e <;> subst e <;> rw [Rep] at h <;> exact h
theorem keysD_of {R : List Addr} {F : Hp} : ∀ {ds : List D} {ks : List Key} {vs : List V}, keysD ds = some ks → RepL Γ R F ds vs → vs = ks.map kV
  | [], ks, vs, e, h => by rw [keysD] at e; cases e; rw [RepL] at h; exact h
  | x :: xs, ks, vs, e, h => by
    rw [keysD] at e
    split at e
    · rename_i p ps e1 e2
      cases e
      rw [RepL] at h
      obtain ⟨y, r, e3, q, l⟩ := h
      rw [e3, keyD_of e1 q, keysD_of e2 l]
      rfl
    · cases e
theorem Top.rep_of {d : D} {v : V} (h : Top Γ w d v) (n : d.items = none ∨ (∃ xs, d = .tup xs)) (n2 : ∀ k, d ≠ .dK k) (n3 : ∀ k, d ≠ .dT k) : Rep Γ w.R w.F d v := by
  cases d with
  | lst xs => rcases n with n | ⟨_, n⟩ <;> cases n
  | dK k => exact absurd rfl (n2 k)
  | dT k => exact absurd rfl (n3 k)
  | _ => exact h
theorem dGet_ok (g : Good w) {y x : D} {o : Option D} {vy vx : V} (e : dGet y x = some o) (ty : Top Γ w y vy) (tx : Top Γ w x vx) : ∃ a o', vy = .ref a ∧ DGet w.H a vx o' ∧ RepO Γ w.R w.F o o' := by iterate
  cases y with
  | dK kvs =>
    obtain ⟨k, e1, e2⟩ := Option.map_eq_some_iff.mp e
    subst e2
    obtain ⟨a, ys, ev, h, l⟩ := ty
    have rx : Rep Γ w.R w.F x vx := tx.rep_of (by cases x <;> first | exact .inl rfl | (simp [keyD] at e1)) (fun k z => by subst z; simp [keyD] at e1) (fun k z => by subst z; simp [keyD] at e1)
    rw [keyD_of e1 rx]
    exact ⟨a, _, ev, DGet.k h, l.luk k⟩
  | dT kvs =>
    cases x with
    | tup ks =>
      obtain ⟨k, e1, e2⟩ := Option.map_eq_some_iff.mp e
      subst e2
      obtain ⟨a, ys, ev, h, l⟩ := ty
      obtain ⟨b, zs, ex, hb, lb⟩ := top_tup tx
      have ez := keysD_of e1 lb
      subst ez ex
      exact ⟨a, _, ev, DGet.t h (g.sub _ _ hb), l.luk k⟩
    | _ => cases e
  | lt kvs =>
    cases x with
    | tup ks =>
      obtain ⟨k, e1, e2⟩ := Option.map_eq_some_iff.mp e
      subst e2
      have ty : Rep Γ w.R w.F (.lt kvs) vy := ty
      rw [Rep] at ty
      obtain ⟨a, o, ys, ev, h, l⟩ := ty
      obtain ⟨b, zs, ex, hb, lb⟩ := top_tup tx
      have ez := keysD_of e1 lb
      subst ez ex
      exact ⟨a, _, ev, .inr ⟨ys, k, b, .inr ⟨o, g.sub _ _ h⟩, rfl, g.sub _ _ hb, rfl⟩, l.luk k⟩
    | _ => cases e
  | _ => cases e
/-- y in d, by values -/
def rInD (neg : Bool) : R2 := fun y x H Q => ∃ a o, x = .ref a ∧ DGet H a y o ∧ Q (.bl (if neg = true then !o.isSome else o.isSome)) H
theorem op_inD {X : Cx} (hu : X.A.units + 1 < cLine) : OpR X (compareOp .In) (rInD false) := by
  intro pins s σ H x y v u Q I rx ry h
  obtain ⟨a, o, e, g, q⟩ := h
  subst e
  cases ry
  exact d_in hu I g rx fun s' I' => ⟨.bl _, H, I', rfl, q⟩
theorem bInD (neg : Bool) : BinOk Γ (oInD neg) (rInD neg) := by
  intro w v1 v2 d1 d2 Q gd t1 t2 q
  unfold oInD at q
  cases e : dGet d2 d1 with
  | none => rw [e] at q; exact q.elim
  | some o =>
    rw [e] at q
    obtain ⟨a, o', ev, g, ro⟩ := dGet_ok gd e t2 t1
    refine ⟨a, o', ev, g, ?_⟩
    have z := q.d gd rep_bl
    rw [ro.some_of] at z
    cases neg <;> simpa using z
end
def D.isNon : D → Bool
  | .non => true
  | _ => false
def oIsN (neg : Bool) (x y : D) : Option Rv := if y.isNon = true then some (.d (.bl (neg != x.isNon))) else none
def oIsB (neg : Bool) : D → D → Option Rv
  | .bl a, .bl b => some (.d (.bl (neg != decide (a = b))))
  | _, _ => none
def oIs (neg : Bool) : D → D → Option Rv := fun x y => (oIsN neg x y).or (oIsB neg x y)
section
variable {Γ : Gm} {w : Wd}
theorem top_isNon {x : D} {v : V} (h : Top Γ w x v) : decide (v = .non) = x.isNon := by iterate
  cases x with
  | lst _ => obtain ⟨a, ys, e, _⟩ := h; subst e; rfl
  | dK _ => obtain ⟨a, ys, e, _⟩ := h; subst e; rfl
  | dT _ => obtain ⟨a, ys, e, _⟩ := h; subst e; rfl
  | tup _ => obtain ⟨a, ys, e, _⟩ := top_tup h; subst e; rfl
  | kl _ => obtain ⟨a, ys, e, _⟩ := top_kl h; subst e; rfl
  | kt _ => obtain ⟨a, ys, e, _⟩ := top_kt h; subst e; rfl
  | non => rw [top_non h]; rfl
  | bl _ => rw [top_bl h]; rfl
  | int _ => rw [top_int h]; rfl
  | str _ => rw [top_str h]; rfl
  | ty _ => rw [top_ty h]; rfl
  | lt _ => have h : Rep Γ w.R w.F (.lt _) v := h; rw [Rep] at h; obtain ⟨a, o, ys, e, _⟩ := h; subst e; rfl
  | cl _ => rw [top_cl h]; rfl
  | ins _ _ =>
    have h : Rep Γ w.R w.F _ v := h
    rw [Rep] at h
    obtain ⟨a, dx, gs, e, _⟩ := h
    subst e; rfl
  | ob _ =>
    have h : Rep Γ w.R w.F _ v := h
    rw [Rep] at h
    obtain ⟨a, _, e⟩ := h
    subst e; rfl
  | fn _ =>
    have h : Rep Γ w.R w.F _ v := h
    rw [Rep] at h
    obtain ⟨f, c, pm, ct, e, _⟩ := h
    subst e; rfl
  | unk =>
    have h : Rep Γ w.R w.F _ v := h
    rw [Rep] at h
    obtain ⟨a, e⟩ := h
    subst e; rfl
theorem bIsN : BinOk Γ (oIsN false) (fun x y H Q => y = .non ∧ Q (.bl (decide (x = .non))) H) := by
  intro w v1 v2 d1 d2 Q gd t1 t2 q
  unfold oIsN at q
  split at q
  · rename_i h
    have e := top_isNon t2
    rw [h] at e
    refine ⟨of_decide_eq_true e, ?_⟩
    rw [top_isNon t1]
    have z := q.d gd rep_bl
    simpa using z
  · exact q.elim
theorem bIsB : BinOk Γ (oIsB false) rIsB := by
  intro w v1 v2 d1 d2 Q gd t1 t2 q
  unfold oIsB at q
  split at q
  · rename_i a b
    have z := q.d gd rep_bl
    exact ⟨a, b, top_bl t1, top_bl t2, by simpa using z⟩
  · exact q.elim
end
def cChain (g g' : D → D → Option Rv) (ca cb cc : M Rv) : M Rv := fun ρ S => (ca ρ S).bind fun ra ρ S => (cb ρ S).bind fun rb ρ S =>
  match cont ρ S ra, cont ρ S rb with
  | some d1, some d2 => (match g d1 d2 with
    | some (.d (.bl true)) => (cc ρ S).bind fun rc ρ S => (match cont ρ S rb, cont ρ S rc with
      | some d2, some d3 => lift (g' d2 d3) ρ S
      | _, _ => .bad)
    | some (.d (.bl false)) => .ok (.d (.bl false)) ρ S false
    | _ => .bad)
  | _, _ => .bad
def truD : D → Option Bool
  | .non => some false
  | .bl b => some b
  | .int i => some (i != 0)
  | .str x => if x.length ≤ sizeLine then some ((x.length : Int) != 0) else none
  | .lst xs => some (!xs.isEmpty)
  | .tup xs => some (!xs.isEmpty)
  | .kl xs => some (!xs.isEmpty)
  | .kt xs => some (!xs.isEmpty)
  | .dK xs => some (!xs.isEmpty)
  | _ => none
def cTru (c : M Rv) : M Bool := fun ρ S => (c ρ S).bind fun r ρ S => match (cont ρ S r).bind truD with
  | some b => .ok b ρ S false
  | none => .bad
section
variable {Γ : Gm} {w : Wd}
theorem RepL.emp {R : List Addr} {F : Hp} {xs : List D} {ys : List V} (h : RepL Γ R F xs ys) : ys.isEmpty = xs.isEmpty := by
  cases xs with
  | nil => rw [RepL] at h; subst h; rfl
  | cons x xs => rw [RepL] at h; obtain ⟨y, r, e, _⟩ := h; subst e; rfl
theorem RepK.emp {R : List Addr} {F : Hp} {xs : List (Key × D)} {ys : List (Key × V)} (h : RepK Γ R F xs ys) : ys.isEmpty = xs.isEmpty := by
  cases xs with
  | nil => rw [RepK] at h; subst h; rfl
  | cons x xs => obtain ⟨k, x⟩ := x; rw [RepK] at h; obtain ⟨y, r, e, _⟩ := h; subst e; rfl
theorem tru_top {K : PySem.W.Frag} (hK : Γ.K = K) (g : Good w) {d : D} {v : V} {b : Bool} (e : truD d = some b) (h : Top Γ w d v) : TruV K v w.H b := by iterate
  subst hK
  cases d with
  | non => cases e; rw [top_non h]; rfl
  | bl _ => cases e; rw [top_bl h]; rfl
  | int _ => cases e; rw [top_int h]; rfl
  | str x =>
    rw [top_str h]
    simp only [truD] at e
    split at e
    · cases e; exact ⟨by assumption, rfl⟩
    · cases e
  | lst _ => cases e; obtain ⟨a, ys, e, q, l⟩ := h; subst e; exact .inl ⟨ys, SqL.of q, by rw [l.emp]⟩
  | kl _ => cases e; obtain ⟨a, ys, e, q, l⟩ := top_kl h; subst e; exact .inl ⟨ys, SqL.up g.sub q, by rw [l.emp]⟩
  | tup _ => cases e; obtain ⟨a, ys, e, q, l⟩ := top_tup h; subst e; exact .inr (.inl ⟨ys, SqT.of (g.sub _ _ q), by rw [l.emp]⟩)
  | kt _ => cases e; obtain ⟨a, ys, e, q, l⟩ := top_kt h; subst e; exact .inr (.inl ⟨ys, SqT.up g.sub q, by rw [l.emp]⟩)
  | dK _ => cases e; obtain ⟨a, ys, e, q, l⟩ := h; subst e; exact .inr (.inr ⟨ys, q, by rw [l.emp]⟩)
  | _ => cases e
end
section
variable {X : Cx} {Γ : Gm} {W : WX} {a b c e : Expr} {ca cb cc : M Rv} {ta tb : M Bool} {pos : Pos} {rest : List Expr} {w : Wd} {σ : L2.St}
/-- behind a truth -/
theorem CKb.tru {c : M Rv} {ρ S : List Sl} {Q : Bool → Hp → Prop} (hK : Γ.K = X.K) (h : CKb Γ W w σ Q (cTru c ρ S)) : CK Γ W w σ (fun v H => ∃ k, TruV X.K v H k ∧ Q k H) (c ρ S) := by iterate
  unfold cTru at h
  cases q : c ρ S with
  | ok r ρ1 S1 t =>
    rw [q] at h
    intro w1 v x1 e1 r1 o1
    rw [Res.bind_ok] at h
    have h1 := CKb.ext x1 e1 h
    cases e2 : (cont ρ1 S1 r).bind truD with
    | none => simp only [e2] at h1; exact h1.elim
    | some k =>
      simp only [e2] at h1
      obtain ⟨d, e3, e4⟩ := Option.bind_eq_some_iff.mp e2
      exact ⟨k, tru_top hK r1.good e4 (r1.top o1 e3), h1 w1 (.refl w1) (fun _ => rfl) r1⟩
  | ex y ρ1 S1 => rw [q] at h; exact h
  | bad => rw [q] at h; exact h
theorem pm_test (hK : Γ.K = X.K) (h : PE X e (tM Γ W ca)) (he : ∀ whole, isTrue e X.env whole = (do let v ← whole; standAt e.pos; holding [v] (truthy v))) : PT X e (tMb Γ W (cTru ca)) :=
  (pt_truth h he).imp fun _ _ _ ⟨F, E, C, R, ρ, S, rel, ck⟩ => ⟨F, E, C, R, ρ, S, rel, ck.tru hK⟩
def cNotB (c : M Bool) : M Bool := fun ρ S => (c ρ S).bind fun b ρ S => .ok (!b) ρ S false
theorem CKb.bind {r : Res Bool} {f : Bool → List Sl → List Sl → Res Bool} {Q Q1 : Bool → Hp → Prop} (h : CKb Γ W w σ Q (r.bind f))
    (k : ∀ a ρ S w', Ext w w' → Rel Γ w' ρ S σ → CKb Γ W w' σ Q (f a ρ S) → Q1 a w'.H) : CKb Γ W w σ Q1 r := by
  cases r with
  | ok a ρ S t => exact fun w2 x2 e2 R2 => k a ρ S w2 x2 R2 (CKb.ext x2 e2 h)
  | ex y ρ S => exact h
  | bad => exact h
theorem CKb.bindV {r : Res Bool} {f : Bool → List Sl → List Sl → Res Rv} {Q : VK} {Q1 : Bool → Hp → Prop} (h : CK Γ W w σ Q (r.bind f))
    (k : ∀ a ρ S w', Ext w w' → Rel Γ w' ρ S σ → CK Γ W w' σ Q (f a ρ S) → Q1 a w'.H) : CKb Γ W w σ Q1 r := by
  cases r with
  | ok a ρ S t => exact fun w2 x2 e2 R2 => k a ρ S w2 x2 R2 (CK.ext x2 e2 h)
  | ex y ρ S => exact h
  | bad => exact h
theorem pm_not (h : PT X e (tMb Γ W ta)) : PT X (.UnaryOp .Not e pos) (tMb Γ W (cNotB ta)) :=
  (pt_not h).imp fun _ _ _ ⟨F, E, C, R, ρ, S, rel, ck⟩ => ⟨F, E, C, R, ρ, S, rel, CKb.bind ck fun a ρ1 S1 w1 x1 rel1 ck1 => ck1 w1 (.refl _) (fun _ => rfl) rel1⟩
def cAndB (c d : M Bool) : M Bool := fun ρ S => (c ρ S).bind fun b ρ S => if b = true then d ρ S else .ok false ρ S false
def cOrB (c d : M Bool) : M Bool := fun ρ S => (c ρ S).bind fun b ρ S => if b = true then .ok true ρ S false else d ρ S
theorem pmw_and1 (ha : PT X a (tMb Γ W ta)) : PW X (.BoolOp .And [a] pos) (tMb Γ W ta) := pw_and1 ha
theorem pmw_or1 (ha : PT X a (tMb Γ W ta)) : PW X (.BoolOp .Or [a] pos) (tMb Γ W ta) := pw_or1 ha
theorem _root_.L2.PW.imp {X : Cx} {e : Expr} {t t' : TT} (h : PW X e t) (k : ∀ σ H Q, t' σ H Q → t σ H Q) : PW X e t' := ⟨fun wh pins s σ H Q I hw => h.run wh pins s σ H Q I (k σ H Q hw)⟩
theorem pmw_and (ha : PT X a (tMb Γ W ta)) (hb : PW X (.BoolOp .And (b :: rest) pos) (tMb Γ W tb)) : PW X (.BoolOp .And (a :: b :: rest) pos) (tMb Γ W (cAndB ta tb)) :=
  (pw_and ha hb).imp fun _ _ _ ⟨F, E, C, R, ρ, S, rel, ck⟩ => ⟨F, E, C, R, ρ, S, rel, CKb.bind ck fun a ρ1 S1 w1 x1 rel1 ck1 => by
    cases a with
    | true => exact ⟨w1.F, w1.E, w1.C, w1.R, ρ1, S1, rel1, ck1⟩
    | false => exact ck1 w1 (.refl _) (fun _ => rfl) rel1⟩
theorem pmw_or (ha : PT X a (tMb Γ W ta)) (hb : PW X (.BoolOp .Or (b :: rest) pos) (tMb Γ W tb)) : PW X (.BoolOp .Or (a :: b :: rest) pos) (tMb Γ W (cOrB ta tb)) :=
  (pw_or ha hb).imp fun _ _ _ ⟨F, E, C, R, ρ, S, rel, ck⟩ => ⟨F, E, C, R, ρ, S, rel, CKb.bind ck fun a ρ1 S1 w1 x1 rel1 ck1 => by
    cases a with
    | true => exact ck1 w1 (.refl _) (fun _ => rfl) rel1
    | false => exact ⟨w1.F, w1.E, w1.C, w1.R, ρ1, S1, rel1, ck1⟩⟩
def cOr (ca cb : M Rv) : M Rv := fun ρ S => (ca ρ S).bind fun ra ρ S => match (cont ρ S ra).bind truD with
  | some true => .ok ra ρ S false
  | some false => cb ρ S
  | none => .bad
def cAnd (ca cb : M Rv) : M Rv := fun ρ S => (ca ρ S).bind fun ra ρ S => match (cont ρ S ra).bind truD with
  | some true => cb ρ S
  | some false => .ok ra ρ S false
  | none => .bad
def cNot (ca : M Rv) : M Rv := fun ρ S => (ca ρ S).bind fun ra ρ S => match (cont ρ S ra).bind truD with
  | some b => .ok (.d (.bl (!b))) ρ S false
  | none => .bad
def cIf (t : M Bool) (ca cb : M Rv) : M Rv := fun ρ S => (t ρ S).bind fun b ρ S => if b = true then ca ρ S else cb ρ S
theorem pm_and (hK : Γ.K = X.K) (ha : PE X a (tM Γ W ca)) (hb : PE X (.BoolOp .And (b :: rest) pos) (tM Γ W cb)) : PE X (.BoolOp .And (a :: b :: rest) pos) (tM Γ W (cAnd ca cb)) :=
  (pe_andT ha hb).imp fun _ _ Q ⟨F, E, C, R, ρ, S, rel, ck⟩ => ⟨F, E, C, R, ρ, S, rel, by
    unfold cAnd at ck
    cases q : ca ρ S with
    | ok ra ρ1 S1 t =>
      rw [q] at ck
      intro w1 v1 x1 e1 rel1 o1
      rw [Res.bind_ok] at ck
      have ck1 := CK.ext x1 e1 ck
      cases e2 : (cont ρ1 S1 ra).bind truD with
      | none => simp only [e2] at ck1; exact ck1.elim
      | some k =>
        obtain ⟨d, e3, e4⟩ := Option.bind_eq_some_iff.mp e2
        refine ⟨k, tru_top hK rel1.good e4 (rel1.top o1 e3), ?_⟩
        simp only [e2] at ck1 ck
        cases k with
        | true => exact ⟨w1.F, w1.E, w1.C, w1.R, ρ1, S1, rel1, ck1⟩
        | false => exact ck w1 v1 x1 (fun z => e1 (by simpa using z)) rel1 o1
    | ex y ρ1 S1 => rw [q] at ck; exact ck
    | bad => rw [q] at ck; exact ck⟩
theorem pm_one {op} (h : PE X a (tM Γ W ca)) : PE X (.BoolOp op [a] pos) (tM Γ W ca) := pe_one h
theorem pm_notV (hK : Γ.K = X.K) (ha : PE X a (tM Γ W ca)) : PE X (.UnaryOp .Not a pos) (tM Γ W (cNot ca)) :=
  (pe_notT ha).imp fun _ _ Q ⟨F, E, C, R, ρ, S, rel, ck⟩ => ⟨F, E, C, R, ρ, S, rel, CK.bind ck fun ra ρ1 S1 w1 v1 x1 rel1 o1 ck1 => by
    cases e2 : (cont ρ1 S1 ra).bind truD with
    | none => simp only [e2] at ck1; exact ck1.elim
    | some k =>
      obtain ⟨d, e3, e4⟩ := Option.bind_eq_some_iff.mp e2
      simp only [e2] at ck1
      exact ⟨k, tru_top hK rel1.good e4 (rel1.top o1 e3), ck1 w1 _ (.refl _) (fun _ => rfl) rel1 (rep_bl (Γ := Γ) (R := w1.R) (F := w1.F))⟩⟩
theorem pm_if (ht : PT X c (tMb Γ W ta)) (ha : PE X a (tM Γ W ca)) (hb : PE X b (tM Γ W cb)) : PE X (.IfExp c a b pos) (tM Γ W (cIf ta ca cb)) :=
  (pe_ifExp ht ha hb).imp fun _ _ Q ⟨F, E, C, R, ρ, S, rel, ck⟩ => ⟨F, E, C, R, ρ, S, rel, CKb.bindV ck fun k ρ1 S1 w1 x1 rel1 ck1 => by
    cases k with
    | true => exact ⟨w1.F, w1.E, w1.C, w1.R, ρ1, S1, rel1, ck1⟩
    | false => exact ⟨w1.F, w1.E, w1.C, w1.R, ρ1, S1, rel1, ck1⟩⟩
end
end DV
namespace DV
open PySem PySem.Spec PyProof.Rows L2
def cNilD : M (List D) := fun ρ S => .ok [] ρ S false
def cConsD (c : M Rv) (cs : M (List D)) : M (List D) := fun ρ S => (cD c ρ S).bind fun d ρ S => (cs ρ S).bind fun ds ρ S => .ok (d :: ds) ρ S false
def RvL (Γ : Gm) (w0 w : Wd) (σ : L2.St) : List Rv → List V → Prop
  | [], vs => vs = []
  | r :: rs, vs => ∃ v vs', vs = v :: vs' ∧ RvOk Γ w0 w σ r v ∧ RvL Γ w0 w σ rs vs'
section
variable (Γ : Gm) (W : WX)
def CKr (w : Wd) (σ : L2.St) (Q : List V → Hp → Prop) : Res (List Rv) → Prop
  | .ok rs ρ' S' t => ∀ w' vs, Ext w w' → (t = false → w'.E = w.E) → Rel Γ w' ρ' S' σ → RvL Γ w w' σ rs vs → Q vs w'.H
  | .ex x ρ' S' => ∀ w' cls d, Ext w w' → Rel Γ w' ρ' S' σ → XOk Γ w' x cls d → W cls d σ w'.H
  | .bad => False
def tMr (c : M (List Rv)) : TA := fun σ H Q => ∃ F E C R ρ S, Rel Γ ⟨F, E, C, R, H⟩ ρ S σ ∧ CKr Γ W ⟨F, E, C, R, H⟩ σ Q (c ρ S)
end
def cNilR : M (List Rv) := fun ρ S => .ok [] ρ S false
def cConsR (c : M Rv) (cs : M (List Rv)) : M (List Rv) := fun ρ S => (c ρ S).bind fun d ρ S => (cs ρ S).bind fun ds ρ S => .ok (d :: ds) ρ S false
section
variable {Γ : Gm} {W : WX} {w w0 w1 w2 : Wd} {σ : L2.St} {ρ S : List Sl} {Q : VK}
theorem RvL.up (x : Ext w w1) : ∀ {rs : List Rv} {vs : List V}, RvL Γ w0 w σ rs vs → RvL Γ w0 w1 σ rs vs
  | [], _, h => h
  | _ :: _, _, ⟨v, vs', e, h, l⟩ => ⟨v, vs', e, h.up x, l.up x⟩
theorem RvL.base (x : Ext w0 w1) : ∀ {rs : List Rv} {vs : List V}, RvL Γ w1 w σ rs vs → RvL Γ w0 w σ rs vs
  | [], _, h => h
  | _ :: _, _, ⟨v, vs', e, h, l⟩ => ⟨v, vs', e, h.base x, l.base x⟩
theorem CKr.ext {t : Bool} {Q : List V → Hp → Prop} {r : Res (List Rv)} (x : Ext w w1) (e : t = false → w1.E = w.E) (h : CKr Γ W w σ Q (r.addt t)) : CKr Γ W w1 σ Q r := by
  cases r with
  | ok a ρ S t' =>
    refine fun w2 v x2 e2 R2 o2 => h w2 v (x.trans x2) (fun z => ?_) R2 (o2.base x)
    obtain ⟨z1, z2⟩ := Bool.or_eq_false_iff.mp z
    rw [e2 z2, e z1]
  | ex y ρ S => exact fun w2 cls d x2 R2 o2 => h w2 cls d (x.trans x2) R2 o2
  | bad => exact h
/-- the datum of an expression, then more -/
theorem CKl.datum {c : M Rv} {f : D → List Sl → List Sl → Res (List D)} {Q : List V → Hp → Prop} {Q1 : VK} (h : CKl Γ W w σ Q ((cD c ρ S).bind f))
    (k : ∀ d ρ' S' w' v, Ext w w' → Rel Γ w' ρ' S' σ → Rep Γ w'.R w'.F d v → CKl Γ W w' σ Q (f d ρ' S') → Q1 v w'.H) : CK Γ W w σ Q1 (c ρ S) := by
  refine CKd.of (Qd := fun _ _ _ => True) ?_ fun d ρ' S' t w' v x e r o q => ?_
  · cases q : cD c ρ S with
    | ok a ρ1 S1 t => exact fun _ _ _ _ _ _ => True.intro
    | ex y ρ1 S1 => rw [q] at h; exact h
    | bad => rw [q] at h; exact h
  · rw [q, Res.bind_ok] at h
    exact k d ρ' S' w' v x r o (CKl.ext x e h)
theorem CKl.bind {r : Res (List D)} {f : List D → List Sl → List Sl → Res (List D)} {Q Q1 : List V → Hp → Prop} (h : CKl Γ W w σ Q (r.bind f))
    (k : ∀ a ρ S w' v, Ext w w' → Rel Γ w' ρ S σ → RepL Γ w'.R w'.F a v → CKl Γ W w' σ Q (f a ρ S) → Q1 v w'.H) : CKl Γ W w σ Q1 r := by
  cases r with
  | ok a ρ S t => exact fun w2 v x2 e2 R2 o2 => k a ρ S w2 v x2 R2 o2 (CKl.ext x2 e2 h)
  | ex y ρ S => exact h
  | bad => exact h
theorem CKl.bindV {r : Res (List D)} {f : List D → List Sl → List Sl → Res Rv} {Q1 : List V → Hp → Prop} (h : CK Γ W w σ Q (r.bind f))
    (k : ∀ a ρ S w' v, Ext w w' → Rel Γ w' ρ S σ → RepL Γ w'.R w'.F a v → CK Γ W w' σ Q (f a ρ S) → Q1 v w'.H) : CKl Γ W w σ Q1 r := by
  cases r with
  | ok a ρ S t => exact fun w2 v x2 e2 R2 o2 => k a ρ S w2 v x2 R2 o2 (CK.ext x2 e2 h)
  | ex y ρ S => exact h
  | bad => exact h
theorem CKr.bindV {r : Res (List Rv)} {f : List Rv → List Sl → List Sl → Res Rv} {Q1 : List V → Hp → Prop} (h : CK Γ W w σ Q (r.bind f))
    (k : ∀ a ρ S w' v, Ext w w' → Rel Γ w' ρ S σ → RvL Γ w w' σ a v → CK Γ W w' σ Q (f a ρ S) → Q1 v w'.H) : CKr Γ W w σ Q1 r := by
  cases r with
  | ok a ρ S t => exact fun w2 v x2 e2 R2 o2 => k a ρ S w2 v x2 R2 o2 (CK.ext x2 e2 h)
  | ex y ρ S => exact h
  | bad => exact h
theorem CKr.bind {r : Res (List Rv)} {f : List Rv → List Sl → List Sl → Res (List Rv)} {Q Q1 : List V → Hp → Prop} (h : CKr Γ W w σ Q (r.bind f))
    (k : ∀ a ρ S w' v, Ext w w' → Rel Γ w' ρ S σ → RvL Γ w w' σ a v → CKr Γ W w' σ Q (f a ρ S) → Q1 v w'.H) : CKr Γ W w σ Q1 r := by
  cases r with
  | ok a ρ S t => exact fun w2 v x2 e2 R2 o2 => k a ρ S w2 v x2 R2 o2 (CKr.ext x2 e2 h)
  | ex y ρ S => exact h
  | bad => exact h
end
section
variable {X : Cx} {Γ : Gm} {W : WX} {e a b : Expr} {es : List Expr} {c ca cb : M Rv} {cs : M (List D)} {cr : M (List Rv)} {pos : Pos}
theorem pma_nil : PA X [] (tMl Γ W cNilD) := pa_nil.imp fun σ H Q ⟨F, E, C, R, ρ, S, rel, ck⟩ => ck ⟨F, E, C, R, H⟩ [] (.refl _) (fun _ => rfl) rel (by rw [RepL])
theorem pma_cons (ha : PE X e (tM Γ W c)) (hr : PA X es (tMl Γ W cs)) (hs : starEach (e :: es) X.env = (false, eval e X.env) :: starEach es X.env) : PA X (e :: es) (tMl Γ W (cConsD c cs)) :=
  (pa_cons ha hr hs).imp fun σ H Q ⟨F, E, C, R, ρ, S, rel, ck⟩ => ⟨F, E, C, R, ρ, S, rel, CKl.datum ck fun d ρ1 S1 w1 v1 x1 rel1 o1 ck1 =>
    ⟨w1.F, w1.E, w1.C, w1.R, ρ1, S1, rel1, CKl.bind ck1 fun ds ρ2 S2 w2 vs x2 rel2 o2 ck2 => ck2 w2 _ (.refl _) (fun _ => rfl) rel2 (by rw [RepL]; exact ⟨v1, vs, rfl, Rep.up x2.gr _ _ o1, o2⟩)⟩⟩
theorem pmr_nil : PA X [] (tMr Γ W cNilR) := pa_nil.imp fun σ H Q ⟨F, E, C, R, ρ, S, rel, ck⟩ => ck ⟨F, E, C, R, H⟩ [] (.refl _) (fun _ => rfl) rel rfl
theorem CK.bindR {r : Res Rv} {f : Rv → List Sl → List Sl → Res (List Rv)} {w : Wd} {σ : L2.St} {Q : List V → Hp → Prop} {Q1 : VK} (h : CKr Γ W w σ Q (r.bind f))
    (k : ∀ a ρ S t w' v, Ext w w' → (t = false → w'.E = w.E) → Rel Γ w' ρ S σ → RvOk Γ w w' σ a v → CKr Γ W w σ Q ((f a ρ S).addt t) → Q1 v w'.H) : CK Γ W w σ Q1 r := by
  cases r with
  | ok a ρ S t => exact fun w2 v x2 e2 R2 o2 => k a ρ S t w2 v x2 e2 R2 o2 h
  | ex y ρ S => exact h
  | bad => exact h
theorem pmr_cons (ha : PE X e (tM Γ W c)) (hr : PA X es (tMr Γ W cr)) (hs : starEach (e :: es) X.env = (false, eval e X.env) :: starEach es X.env) : PA X (e :: es) (tMr Γ W (cConsR c cr)) :=
  (pa_cons ha hr hs).imp fun σ H Q ⟨F, E, C, R, ρ, S, rel, ck⟩ => ⟨F, E, C, R, ρ, S, rel, CK.bindR ck fun d ρ1 S1 t w1 v1 x1 e1 rel1 o1 ck1 =>
    ⟨w1.F, w1.E, w1.C, w1.R, ρ1, S1, rel1, by
      cases q : cr ρ1 S1 with
      | ok ds ρ2 S2 t2 =>
        rw [q] at ck1
        intro w2 vs x2 e2 rel2 o2
        refine ck1 w2 (v1 :: vs) (x1.trans x2) (fun z => ?_) rel2 ⟨v1, vs, rfl, o1.up x2, o2.base x1⟩
        simp only [Bool.or_false, Bool.or_eq_false_iff] at z
        rw [e2 z.2, e1 z.1]
      | ex y ρ2 S2 =>
        rw [q] at ck1
        exact fun w2 cls d x2 rel2 o2 => ck1 w2 cls d (x1.trans x2) rel2 o2
      | bad => rw [q] at ck1; exact ck1⟩⟩
def cTup (cs : M (List D)) : M Rv := fun ρ S => (cs ρ S).bind fun ds ρ S => if ds.length ≤ sizeLine then .ok (.d (.tup ds)) ρ S false else .bad
def cLst (cs : M (List D)) : M Rv := fun ρ S => (cs ρ S).bind fun ds ρ S => if ds.length ≤ sizeLine then .ok (.fr (.lst ds)) ρ S false else .bad
theorem pm_tup {k : Nat} (h : PA X es (tMl Γ W cs)) : PE X (.Tuple es k pos) (tM Γ W (cTup cs)) :=
  (pe_tup h).imp fun σ H Q ⟨F, E, C, R, ρ, S, rel, ck⟩ => ⟨F, E, C, R, ρ, S, rel, CKl.bindV ck fun ds ρ1 S1 w1 vs x1 rel1 o1 ck1 => by iterate
    by_cases hl : ds.length ≤ sizeLine
    · rw [if_pos hl] at ck1
      refine ⟨by rw [← o1.length]; exact hl, fun p hp => ?_⟩
      have ck2 : CK Γ W w1 σ Q (lift (some (.d (.tup ds))) ρ1 S1) := ck1
      exact (ck2.prim rel1).new rel1.good hp (by
        rw [Rep]
        exact ⟨p, vs, rfl, upd_same, o1.up ⟨⟨[], by simp⟩, updF_up (rel1.good.none_of hp).1⟩⟩)
    · rw [if_neg hl] at ck1
      exact ck1.elim⟩
theorem pm_lst (h : PA X es (tMl Γ W cs)) : PE X (.List es pos) (tM Γ W (cLst cs)) :=
  (pe_lst h).imp fun σ H Q ⟨F, E, C, R, ρ, S, rel, ck⟩ => ⟨F, E, C, R, ρ, S, rel, CKl.bindV ck fun ds ρ1 S1 w1 vs x1 rel1 o1 ck1 => by
    by_cases hl : ds.length ≤ sizeLine
    · rw [if_pos hl] at ck1
      refine ⟨by rw [← o1.length]; exact hl, fun p hp => ?_⟩
      have ck2 : CK Γ W w1 σ Q (lift (some (.fr (.lst ds))) ρ1 S1) := ck1
      exact (ck2.prim rel1).fr rel1.good hp (fun ps z => nomatch z) (by
        rw [Own]
        exact ⟨p, vs, rfl, o1, rfl⟩)
    · rw [if_neg hl] at ck1
      exact ck1.elim⟩
def TopL (Γ : Gm) (w : Wd) : List D → List V → Prop
  | [], vs => vs = []
  | d :: ds, vs => ∃ v vs', vs = v :: vs' ∧ Top Γ w d v ∧ TopL Γ w ds vs'
def conts (ρ S : List Sl) : List Rv → Option (List D)
  | [] => some []
  | r :: rs => match cont ρ S r, conts ρ S rs with
    | some d, some ds => some (d :: ds)
    | _, _ => none
theorem Rel.tops {w w0 : Wd} {σ : L2.St} {ρ S : List Sl} (h : Rel Γ w ρ S σ) : ∀ {rs : List Rv} {vs : List V} {ds : List D}, RvL Γ w0 w σ rs vs → conts ρ S rs = some ds → TopL Γ w ds vs
  | [], vs, ds, l, e => by
    rw [conts] at e
    cases e
    exact l
  | r :: rs, vs, ds, ⟨v, vs', e1, o, l⟩, e => by
    rw [conts] at e
    split at e
    · rename_i d ds' e2 e3
      cases e
      exact ⟨v, vs', e1, h.top o e2, h.tops l e3⟩
    · cases e
def CallOk (Γ : Gm) (g : List D → Option Rv) (r : List V → Hp → VK → Prop) : Prop :=
  ∀ (w : Wd) (vs : List V) (ds : List D) (Q : VK), Good w → TopL Γ w ds vs → PQ Γ w Q (g ds) → r vs w.H Q
theorem CallOk.or {g g' : List D → Option Rv} {r r' : List V → Hp → VK → Prop} (h : CallOk Γ g r) (h' : CallOk Γ g' r') : CallOk Γ (fun ds => (g ds).or (g' ds)) (fun vs H Q => r vs H Q ∨ r' vs H Q) := by
  intro w vs ds Q gd t q
  have q : PQ Γ w Q ((g ds).or (g' ds)) := q
  cases e : g ds with
  | none =>
    rw [e] at q
    exact .inr (h' w vs ds Q gd t q)
  | some z =>
    rw [e] at q
    exact .inl (h w vs ds Q gd t (by rw [e]; exact q))
def cBlt (g : List D → Option Rv) (cs : M (List Rv)) : M Rv := fun ρ S => (cs ρ S).bind fun rs ρ S => match conts ρ S rs with
  | some ds => lift (g ds) ρ S
  | none => .bad
theorem blt_core {g : List D → Option Rv} {r : List V → Hp → VK → Prop} (hg : CallOk Γ g r) {σ : L2.St} {H : Hp} {Q : VK} (h : tM Γ W (cBlt g cr) σ H Q) : tCB r (tMr Γ W cr) σ H Q := by
  obtain ⟨F, E, C, R, ρ, S, rel, ck⟩ := h
  refine ⟨F, E, C, R, ρ, S, rel, CKr.bindV ck fun rs ρ1 S1 w1 vs x1 rel1 o1 ck1 => ?_⟩
  cases e : conts ρ1 S1 rs with
  | none => simp only [e] at ck1; exact ck1.elim
  | some ds =>
    simp only [e] at ck1
    exact hg w1 vs ds Q rel1.good (rel1.tops o1 e) (ck1.prim rel1)
theorem pm_blt {x : Str} {id : String} {g : List D → Option Rv} {r : List V → Hp → VK → Prop} {p : Pos} (hc : CallR X (.builtin id) r) (ok : CallOk Γ g r) (hg : Gl X x) (hm : X.mg x = none) (hv : bootBuiltins x = some (.builtin id)) (ha : PA X (e :: es) (tMr Γ W cr))
    (he : starEach (e :: es) X.env = (false, eval e X.env) :: starEach es X.env) (hpl : (backTo pos (starEach es X.env)).any (·.1) = false) (hn : x ≠ "__name__") (hdb : (x == ("__debug__" : Str)) = false) : PE X (.Call (.Name x p) (e :: es) [] pos) (tM Γ W (cBlt g cr)) :=
  (pe_callB hc hg hm hv ha hn hdb he hpl).imp fun _ _ _ h => blt_core ok h
theorem pm_ty {x : Str} {T : String} {g : List D → Option Rv} {r : List V → Hp → VK → Prop} {p : Pos} (hc : CallR X (.type T) r) (ok : CallOk Γ g r) (hg : Gl X x) (hm : X.mg x = none) (hv : bootBuiltins x = some (.type T)) (ha : PA X (e :: es) (tMr Γ W cr))
    (he : starEach (e :: es) X.env = (false, eval e X.env) :: starEach es X.env) (hpl : (backTo pos (starEach es X.env)).any (·.1) = false) (hn : x ≠ "__name__") (hdb : (x == ("__debug__" : Str)) = false) : PE X (.Call (.Name x p) (e :: es) [] pos) (tM Γ W (cBlt g cr)) :=
  (pe_callTy hc hg hm hv ha hn hdb he hpl).imp fun _ _ _ h => blt_core ok h
end
def oIx : D → D → Option Rv
  | .str z, .int i => if z.length ≤ sizeLine then (atI z.cps.toList i).map fun c => .d (.str ⟨#[c]⟩) else none
  | y, .int i => y.items.bind fun xs => (atI xs i).map .d
  | _, _ => none
def oIxD (y x : D) : Option Rv := (dGet y x).bind fun o => o.map .d
section
variable {Γ : Gm} {X : Cx}
theorem RepL.get {R : List Addr} {F : Hp} : ∀ {xs : List D} {ys : List V} {i : Nat} {d : D}, RepL Γ R F xs ys → xs[i]? = some d → ∃ v, ys[i]? = some v ∧ Rep Γ R F d v
  | [], _, _, _, _, e => by simp at e
  | x :: xs, ys, 0, d, h, e => by
    rw [RepL] at h
    obtain ⟨y, r, e1, q, l⟩ := h
    simp at e
    subst e e1
    exact ⟨y, rfl, q⟩
  | x :: xs, ys, i + 1, d, h, e => by
    rw [RepL] at h
    obtain ⟨y, r, e1, q, l⟩ := h
    subst e1
    obtain ⟨v, h1, h2⟩ := RepL.get (i := i) l (by simpa using e)
    exact ⟨v, by simpa using h1, h2⟩
theorem RepL.atI {R : List Addr} {F : Hp} {xs : List D} {ys : List V} {i : Int} {d : D} (h : RepL Γ R F xs ys) (e : L2.atI xs i = some d) : ∃ v, L2.atI ys i = some v ∧ Rep Γ R F d v := by
  unfold L2.atI at e ⊢
  obtain ⟨j, e1, e2⟩ := Option.bind_eq_some_iff.mp e
  obtain ⟨v, h1, h2⟩ := h.get e2
  exact ⟨v, by rw [← h.length, e1]; exact h1, h2⟩
theorem bIx : BinOk Γ oIx (rIx Γ.K) := by iterate
  intro w v1 v2 d1 d2 Q gd t1 t2 q
  have seq : ∀ i xs, d2 = .int i → d1.items = some xs → PQ Γ w Q ((L2.atI xs i).map .d) → rIx Γ.K v1 v2 w.H Q := fun i xs e2 e1 qq => by
    subst e2
    cases ea : L2.atI xs i with
    | none => rw [ea] at qq; exact qq.elim
    | some d =>
      rw [ea] at qq
      obtain ⟨a, ys, ev, hs, l⟩ := top_seq gd e1 t1
      obtain ⟨v, h1, h2⟩ := l.atI ea
      rcases hs with hs | hs
      · exact .inl ⟨a, ys, i, v, ev, top_int t2, hs, h1, qq.d gd h2⟩
      · exact .inr (.inl ⟨a, ys, i, v, ev, top_int t2, hs, h1, qq.d gd h2⟩)
  cases d2 with
  | int i =>
    cases d1 with
    | str z =>
      simp only [oIx] at q
      split at q
      · rename_i hz
        cases ea : L2.atI z.cps.toList i with
        | none => rw [ea] at q; exact q.elim
        | some c =>
          rw [ea] at q
          exact .inr (.inr ⟨z, i, c, top_str t1, top_int t2, hz, ea, q.d gd rep_str⟩)
      · exact q.elim
    | lst xs => exact seq i xs rfl rfl q
    | tup xs => exact seq i xs rfl rfl q
    | kl xs => exact seq i xs rfl rfl q
    | kt xs => exact seq i xs rfl rfl q
    | _ => exact q.elim
  | _ => cases d1 <;> exact q.elim
def rIxD : R2 := fun x y H Q => ∃ a v, x = .ref a ∧ DGet H a y (some v) ∧ Q v H
theorem ix_dict (hu : X.A.units + 1 < cLine) : IxR X rIxD := by
  intro value slice pins s σ H x y v u Q I rx ry h hs
  obtain ⟨a, z, e, g, q⟩ := h
  subst e
  cases rx
  exact tail_any (dict_typeIs I g) PySem.F.slot_dict_getitem.lookup (d_getItem hu I g ry fun w' s' I' r' => ⟨z, H, I', r', q⟩) hs
theorem bIxD : BinOk Γ oIxD rIxD := by
  intro w v1 v2 d1 d2 Q gd t1 t2 q
  unfold oIxD at q
  cases e : dGet d1 d2 with
  | none => rw [e] at q; exact q.elim
  | some o =>
    rw [e] at q
    obtain ⟨a, o', ev, g, ro⟩ := dGet_ok gd e t1 t2
    cases o with
    | none => exact q.elim
    | some d =>
      cases o' with
      | none => exact ro.elim
      | some v => exact ⟨a, v, ev, g, q.d gd ro⟩
end
def partD : D → Option (Option Int)
  | .int i => some (some i)
  | _ => none
/-- an optional bound -/
def cNoP : M (Option Int) := fun ρ S => .ok none ρ S false
def cPart (c : M Rv) : M (Option Int) := fun ρ S => (c ρ S).bind fun r ρ S => match (cont ρ S r).bind partD with
  | some o => .ok o ρ S false
  | none => .bad
section
variable (Γ : Gm) (W : WX)
def CKo (w : Wd) (σ : L2.St) (Q : Option Int → Hp → Prop) : Res (Option Int) → Prop
  | .ok b ρ' S' t => ∀ w', Ext w w' → (t = false → w'.E = w.E) → Rel Γ w' ρ' S' σ → Q b w'.H
  | .ex x ρ' S' => ∀ w' cls d, Ext w w' → Rel Γ w' ρ' S' σ → XOk Γ w' x cls d → W cls d σ w'.H
  | .bad => False
def tMo (c : M (Option Int)) : TO := fun σ H Q => ∃ F E C R ρ S, Rel Γ ⟨F, E, C, R, H⟩ ρ S σ ∧ CKo Γ W ⟨F, E, C, R, H⟩ σ Q (c ρ S)
end
def cutD (xs : List D) (lo hi : Option Int) : List D := (xs.drop (HT.sIx xs.length 0 lo)).take (HT.sIx xs.length xs.length hi - HT.sIx xs.length 0 lo)
def oSl : D → Option Int → Option Int → Option Rv
  | .lst xs, lo, hi => some (.fr (.lst (cutD xs lo hi)))
  | .kl xs, lo, hi => some (.fr (.lst (cutD xs lo hi)))
  | _, _, _ => none
def cSl (g : D → Option Int → Option Int → Option Rv) (ce : M Rv) (cl ch : M (Option Int)) : M Rv := fun ρ S => (ce ρ S).bind fun re ρ S => (cl ρ S).bind fun lo ρ S => (ch ρ S).bind fun hi ρ S =>
  match cont ρ S re with
  | some d => lift (g d lo hi) ρ S
  | none => .bad
section
variable {X : Cx} {Γ : Gm} {W : WX} {e a b : Expr} {c ca : M Rv} {pos p2 : Pos} {w w1 : Wd} {σ : L2.St}
theorem CKo.ext {t : Bool} {Q : Option Int → Hp → Prop} {r : Res (Option Int)} (x : Ext w w1) (e : t = false → w1.E = w.E) (h : CKo Γ W w σ Q (r.addt t)) : CKo Γ W w1 σ Q r := by
  cases r with
  | ok a ρ S t' =>
    refine fun w2 x2 e2 R2 => h w2 (x.trans x2) (fun z => ?_) R2
    obtain ⟨z1, z2⟩ := Bool.or_eq_false_iff.mp z
    rw [e2 z2, e z1]
  | ex y ρ S => exact fun w2 cls d x2 R2 o2 => h w2 cls d (x.trans x2) R2 o2
  | bad => exact h
theorem CKo.bindV {r : Res (Option Int)} {f : Option Int → List Sl → List Sl → Res Rv} {Q : VK} {Q1 : Option Int → Hp → Prop} (h : CK Γ W w σ Q (r.bind f))
    (k : ∀ a ρ S w', Ext w w' → Rel Γ w' ρ S σ → CK Γ W w' σ Q (f a ρ S) → Q1 a w'.H) : CKo Γ W w σ Q1 r := by
  cases r with
  | ok a ρ S t => exact fun w2 x2 e2 R2 => k a ρ S w2 x2 R2 (CK.ext x2 e2 h)
  | ex y ρ S => exact h
  | bad => exact h
theorem CK.bindO {r : Res Rv} {f : Rv → List Sl → List Sl → Res (Option Int)} {Q : Option Int → Hp → Prop} {Q1 : VK} (h : CKo Γ W w σ Q (r.bind f))
    (k : ∀ a ρ S w' v, Ext w w' → Rel Γ w' ρ S σ → RvOk Γ w w' σ a v → CKo Γ W w' σ Q (f a ρ S) → Q1 v w'.H) : CK Γ W w σ Q1 r := by
  cases r with
  | ok a ρ S t => exact fun w2 v x2 e2 R2 o2 => k a ρ S w2 v x2 R2 o2 (CKo.ext x2 e2 h)
  | ex y ρ S => exact h
  | bad => exact h
theorem _root_.L2.PO.imp {X : Cx} {e : Option Expr} {t t' : TO} (h : PO X e t) (k : ∀ σ H Q, t' σ H Q → t σ H Q) : PO X e t' := ⟨fun pins s σ H Q I hw => h.run pins s σ H Q I (k σ H Q hw)⟩
theorem pmo_none : PO X none (tMo Γ W cNoP) := po_none.imp fun σ H Q ⟨F, E, C, R, ρ, S, rel, ck⟩ => ck ⟨F, E, C, R, H⟩ (.refl _) (fun _ => rfl) rel
theorem pmo_some (h : PE X e (tM Γ W c)) : PO X (some e) (tMo Γ W (cPart c)) :=
  (po_some h).imp fun σ H Q ⟨F, E, C, R, ρ, S, rel, ck⟩ => ⟨F, E, C, R, ρ, S, rel, CK.bindO ck fun ra ρ1 S1 w1 v1 x1 rel1 o1 ck1 => by
    cases e2 : (cont ρ1 S1 ra).bind partD with
    | none => simp only [e2] at ck1; exact ck1.elim
    | some k =>
      obtain ⟨d, e3, e4⟩ := Option.bind_eq_some_iff.mp e2
      simp only [e2] at ck1
      cases d with
      | int i =>
        cases e4
        exact ⟨i, top_int (rel1.top o1 e3), ck1 w1 (.refl _) (fun _ => rfl) rel1⟩
      | _ => cases e4⟩
def SlOk (Γ : Gm) (g : D → Option Int → Option Int → Option Rv) (r : V → Option Int → Option Int → Hp → VK → Prop) : Prop :=
  ∀ (w : Wd) (v : V) (d : D) (lo hi : Option Int) (Q : VK), Good w → Top Γ w d v → PQ Γ w Q (g d lo hi) → r v lo hi w.H Q
theorem SlOk.or {g g' : D → Option Int → Option Int → Option Rv} {r r' : V → Option Int → Option Int → Hp → VK → Prop} (h : SlOk Γ g r) (h' : SlOk Γ g' r') : SlOk Γ (fun d l u => (g d l u).or (g' d l u)) (fun v l u H Q => r v l u H Q ∨ r' v l u H Q) := by
  intro w v d lo hi Q gd t q
  have q : PQ Γ w Q ((g d lo hi).or (g' d lo hi)) := q
  cases e : g d lo hi with
  | none =>
    rw [e] at q
    exact .inr (h' w v d lo hi Q gd t q)
  | some z =>
    rw [e] at q
    exact .inl (h w v d lo hi Q gd t (by rw [e]; exact q))
theorem pm_slice {lo hi : Option Expr} {cl ch : M (Option Int)} {g : D → Option Int → Option Int → Option Rv} {r : V → Option Int → Option Int → Hp → VK → Prop} (hr : SlR X r) (hg : SlOk Γ g r) (he : PE X e (tM Γ W c)) (hl : PO X lo (tMo Γ W cl)) (hh : PO X hi (tMo Γ W ch)) :
    PE X (.Subscript e (.Slice lo hi none p2) pos) (tM Γ W (cSl g c cl ch)) :=
  (pe_slice hr he hl hh).imp fun σ H Q ⟨F, E, C, R, ρ, S, rel, ck⟩ => ⟨F, E, C, R, ρ, S, rel, CK.bind ck fun re ρ1 S1 w1 v1 x1 rel1 o1 ck1 =>
    ⟨w1.F, w1.E, w1.C, w1.R, ρ1, S1, rel1, CKo.bindV ck1 fun l ρ2 S2 w2 x2 rel2 ck2 => ⟨w2.F, w2.E, w2.C, w2.R, ρ2, S2, rel2, CKo.bindV ck2 fun u ρ3 S3 w3 x3 rel3 ck3 => by
      cases e2 : cont ρ3 S3 re with
      | none => simp only [e2] at ck3; exact ck3.elim
      | some d =>
        simp only [e2] at ck3
        exact hg w3 v1 d l u Q rel3.good (rel3.top ((o1.up x2).up x3) e2) (ck3.prim rel3)⟩⟩⟩
theorem RepL.drop {R : List Addr} {F : Hp} : ∀ {xs : List D} {ys : List V} (n : Nat), RepL Γ R F xs ys → RepL Γ R F (xs.drop n) (ys.drop n)
  | _, _, 0, h => h
  | [], ys, n + 1, h => by rw [RepL] at h; subst h; simp [RepL]
  | x :: xs, ys, n + 1, h => by
    rw [RepL] at h
    obtain ⟨y, r, e1, q, l⟩ := h
    subst e1
    exact RepL.drop n l
theorem RepL.take {R : List Addr} {F : Hp} : ∀ {xs : List D} {ys : List V} (n : Nat), RepL Γ R F xs ys → RepL Γ R F (xs.take n) (ys.take n)
  | xs, ys, 0, h => by rw [List.take_zero, List.take_zero, RepL]
  | [], ys, n + 1, h => by rw [RepL] at h; subst h; simp [RepL]
  | x :: xs, ys, n + 1, h => by
    rw [RepL] at h
    obtain ⟨y, r, e1, q, l⟩ := h
    subst e1
    rw [List.take_succ_cons, List.take_succ_cons, RepL]
    exact ⟨y, _, rfl, q, RepL.take n l⟩
theorem RepL.cut {R : List Addr} {F : Hp} {xs : List D} {ys : List V} (lo hi : Option Int) (h : RepL Γ R F xs ys) : RepL Γ R F (cutD xs lo hi) (cutV ys lo hi) := by
  unfold cutD cutV
  rw [h.length]
  exact (h.drop _).take _
theorem bSlL : SlOk Γ oSl (rSlL Γ.K) := by iterate
  intro w v d lo hi Q gd t q
  have fin : ∀ a xs ys, v = .ref a → SqL Γ.K w.H a ys → RepL Γ w.R w.F xs ys → PQ Γ w Q (some (.fr (.lst (cutD xs lo hi)))) → rSlL Γ.K v lo hi w.H Q := fun a xs ys ev h l q =>
    ⟨a, ys, ev, h, fun p hp => q.fr gd hp (fun ps z => nomatch z) (by rw [Own]; exact ⟨p, _, rfl, l.cut lo hi, rfl⟩)⟩
  cases d with
  | lst xs => obtain ⟨a, ys, e, h, l⟩ := t; exact fin a xs ys e (SqL.of h) l q
  | kl xs => obtain ⟨a, ys, e, h, l⟩ := top_kl t; exact fin a xs ys e (SqL.up gd.sub h) l q
  | _ => exact q.elim
end
def tyD (T : String) : D → Bool
  | .str _ => T == "str"
  | .lst _ => T == "list"
  | .kl _ => T == "list"
  | .dK _ => T == "dict"
  | .dT _ => T == "dict"
  | _ => false
def cMt (T : String) (g : D → List D → Option Rv) (co : M Rv) (cs : M (List Rv)) : M Rv := fun ρ S => (co ρ S).bind fun ro ρ S => match cont ρ S ro with
  | some d0 => if tyD T d0 = true then (cs ρ S).bind fun rs ρ S => (match cont ρ S ro, conts ρ S rs with
    | some d, some ds => lift (g d ds) ρ S
    | _, _ => .bad) else .bad
  | none => .bad
end DV
namespace DV
open PySem PySem.Spec PyProof.Rows L2
section
variable (Γ : Gm)
/-- what a def's outcome owes -/
def FK (w : Wd) (Q : VK) (E : XK) : Res Rv → Prop
  | .ok r _ S' _ => ∀ w' v, Ext w w' → RelS Γ w' S' → RvOk Γ w w' [] r v → Q v w'.H
  | .ex x _ S' => ∀ w' cls d, Ext w w' → RelS Γ w' S' → XOk Γ w' x cls d → E cls d w'.H
  | .bad => False
/-- the promise of a def of n parameters whose mirror is m -/
def spM (n : Nat) (m : List D → List Sl → Res Rv) : Sp := fun vs H Q E => vs.length = n ∧ ∃ F C R S ds, RelS Γ ⟨F, [], C, R, H⟩ S ∧ RepL Γ R F ds vs ∧ FK Γ ⟨F, [], C, R, H⟩ Q E (m ds S)
end
/-- a call's outcome, in the caller's frame -/
def Res.at {α : Type} (ρ : List Sl) : Res α → Res α
  | .ok r _ S _ => .ok r ρ S false
  | .ex x _ S => .ex x ρ S
  | .bad => .bad
section
variable {Γ : Gm} {W : WX} {w : Wd} {σ : L2.St} {ρ S : List Sl} {Q : VK}
theorem Rel.callee (h : Rel Γ w ρ S σ) : RelS Γ ⟨w.F, [], w.C, w.R, w.H⟩ S := by
  have nd := h.good.nd
  have : w.ad = w.E.map (·.1) ++ w.C.map (·.1) := by show (w.E ++ w.C).map _ = _; simp
  rw [this] at nd
  exact ⟨⟨h.good.sub, fun p hp => h.good.cell p (List.mem_append_right _ (by simpa using hp)), by simpa using (List.nodup_append.mp nd).2.1⟩, rfl, h.own.2⟩
/-- behind a call: the caller's own cells stand as they stood -/
theorem call_frame (h : Rel Γ w ρ S σ) {w' : Wd} {S' : List Sl} (x : Ext ⟨w.F, [], w.C, w.R, w.H⟩ w') (h' : RelS Γ w' S') :
    Ext w ⟨w'.F, w.E, w'.C, w'.R, w'.H⟩ ∧ Rel Γ ⟨w'.F, w.E, w'.C, w'.R, w'.H⟩ ρ S' σ ∧ ∀ r v, RvOk Γ ⟨w.F, [], w.C, w.R, w.H⟩ w' [] r v → RvOk Γ w ⟨w'.F, w.E, w'.C, w'.R, w'.H⟩ σ r v := by iterate
  have g := h.good
  have nd := g.nd
  have ead : w.ad = w.E.map (·.1) ++ w.C.map (·.1) := by show (w.E ++ w.C).map _ = _; simp
  have ead' : w'.ad = w'.C.map (·.1) := by show (w'.E ++ w'.C).map _ = _; rw [h'.noE]; rfl
  rw [ead] at nd
  obtain ⟨n1, n2, n3⟩ := List.nodup_append.mp nd
  have inC : ∀ a, a ∈ Wd.ad ⟨w.F, [], w.C, w.R, w.H⟩ ↔ a ∈ w.C.map (·.1) := fun a => by show a ∈ ([] ++ w.C).map _ ↔ _; simp
  have outE : ∀ p ∈ w.E, p.1 ∉ w.C.map (·.1) := fun p hp z => n3 _ (List.mem_map_of_mem hp) _ z rfl
  have hE : ∀ p ∈ w.E, w.H p.1 = some p.2 ∧ w.F p.1 = none := fun p hp => g.cell p (List.mem_append_left _ hp)
  have kE : ∀ p ∈ w.E, w'.H p.1 = some p.2 := fun p hp => x.keep _ _ (hE p hp).1 (fun z => outE p hp ((inC _).mp z))
  have fE : ∀ p ∈ w.E, w'.F p.1 = none := fun p hp => by
    cases q : w'.F p.1 with
    | none => rfl
    | some o =>
      rcases x.fnew _ _ q with z | z | z | ⟨xs, z⟩
      · have z : w.F p.1 = some o := z
        rw [(hE p hp).2] at z; cases z
      · have z : w.H p.1 = none := z
        rw [(hE p hp).1] at z; cases z
      · exact absurd ((inC _).mp z) (outE p hp)
      · have z : w.H p.1 = some (.tup xs) := z
        rw [(hE p hp).1] at z
        exact absurd (Option.some.inj z) (OwnE.nt h.own.1 p hp xs)
  have cE : ∀ p ∈ w.E, p.1 ∉ w'.C.map (·.1) := fun p hp z => by
    rcases x.cnew p.1 (by rw [ead']; exact z) with y | y
    · exact outE p hp ((inC _).mp y)
    · have y : w.H p.1 = none := y
      rw [(hE p hp).1] at y; cases y
  have sub : ∀ a, a ∈ Wd.ad ⟨w.F, [], w.C, w.R, w.H⟩ → a ∈ w.ad := fun a z => by rw [ead]; exact List.mem_append_right _ ((inC a).mp z)
  have ead2 : Wd.ad ⟨w'.F, w.E, w'.C, w'.R, w'.H⟩ = w.E.map (·.1) ++ w'.C.map (·.1) := by show (w.E ++ w'.C).map _ = _; simp
  have g' : Good ⟨w'.F, w.E, w'.C, w'.R, w'.H⟩ := by
    refine ⟨h'.good.sub, fun p hp => ?_, ?_⟩
    · rcases List.mem_append.mp hp with z | z
      · exact ⟨kE p z, fE p z⟩
      · exact h'.good.cell p (List.mem_append_right _ z)
    · rw [ead2]
      have n4 := h'.good.nd
      rw [ead'] at n4
      refine List.nodup_append.mpr ⟨n1, n4, fun a ha b hb e => ?_⟩
      obtain ⟨p, hp, rfl⟩ := List.mem_map.mp ha
      exact cE p hp (e ▸ hb)
  refine ⟨⟨x.gr, fun a o z hn => x.keep a o z fun y => hn (sub a y), fun a z => ?_, fun a o z => ?_, x.live⟩, ⟨g', h.own.1.up x.gr, h'.own⟩, fun r v ok => ?_⟩
  · rw [ead2] at z
    rcases List.mem_append.mp z with z | z
    · exact .inl (by rw [ead]; exact List.mem_append_left _ z)
    · rcases x.cnew a (by rw [ead']; exact z) with y | y
      · exact .inl (sub a y)
      · exact .inr y
  · rcases x.fnew a o z with y | y | y | y
    · exact .inl y
    · exact .inr (.inl y)
    · exact .inr (.inr (.inl (sub a y)))
    · exact .inr (.inr (.inr y))
  · cases r with
    | d _ => exact ok
    | env i => exact absurd (show ([] : L2.St)[i]? = some (some v) from ok) (by simp)
    | fr s =>
      obtain ⟨c, ow, f, b⟩ := ok
      refine ⟨c, ow, ⟨fun p hp => ?_, f.nd⟩, fun p hp => ?_⟩
      · obtain ⟨a1, a2, a3⟩ := f.at_ p hp
        refine ⟨a1, a2, fun z => ?_⟩
        rw [ead2] at z
        rcases List.mem_append.mp z with z | z
        · obtain ⟨q, hq, e⟩ := List.mem_map.mp z
          rcases b p hp with y | y
          · have y : w.H p.1 = none := y
            rw [← e, (hE q hq).1] at y; cases y
          · exact outE q hq (by rw [e]; exact (inC _).mp y)
        · exact a3 (by rw [ead']; exact z)
      · rcases b p hp with y | y
        · exact .inl y
        · exact .inr (sub _ y)
theorem CK.call (h : Rel Γ w ρ S σ) {r : Res Rv} (ck : CK Γ W w σ Q (r.at ρ)) : FK Γ ⟨w.F, [], w.C, w.R, w.H⟩ Q (WE W σ) r := by
  cases r with
  | ok r _ S' _ =>
    intro w' v x h' ok
    obtain ⟨x2, r2, k2⟩ := call_frame h x h'
    exact ck ⟨w'.F, w.E, w'.C, w'.R, w'.H⟩ v x2 (fun _ => rfl) r2 (k2 _ _ ok)
  | ex y _ S' =>
    intro w' cls d x h' ok
    obtain ⟨x2, r2, _⟩ := call_frame h x h'
    exact ck ⟨w'.F, w.E, w'.C, w'.R, w'.H⟩ cls d x2 r2 (by cases y <;> exact ok)
  | bad => exact ck
theorem Rel.spM (h : Rel Γ w ρ S σ) {n : Nat} {m : List D → List Sl → Res Rv} {ds : List D} {vs : List V} (l : RepL Γ w.R w.F ds vs) (hn : ds.length = n) (ck : CK Γ W w σ Q ((m ds S).at ρ)) : DV.spM Γ n m vs w.H Q (WE W σ) :=
  ⟨by rw [← l.length]; exact hn, w.F, w.C, w.R, S, ds, h.callee, l, ck.call h⟩
end
/-- n values are written and the keywords ks: gD puts the data in the parameters' order, defaults among them -/
def CallB (Γ : Gm) (K : PySem.W.Frag) (fd : FuncData) (ps : List Str) (n : Nat) (ks : List Str) (gD : List D → List D → List D) : Prop :=
  ∃ g gV, KBn K fd ps n ks g gV ∧ ∀ R F ds vs es zs, RepL Γ R F ds vs → RepL Γ R F es zs → vs.length = n → zs.length = ks.length → RepL Γ R F (gD ds es) (gV vs zs) ∧ (gD ds es).length = ps.length
section
variable {X : Cx} {k n : Nat} {f : Addr} {fd : FuncData} {ps ks : List Str} {sp : Sp} {E : L2.St → XK} {x : Str} {p pos : Pos} {e : Expr} {es : List Expr} {kws : List Keyword} {t tk : TA} {g : List Value → List Value → List Value} {gV : List V → List V → List V} {CX : CXT}
def tCallNS (n m : Nat) (sp : Sp) (gV : List V → List V → List V) (E : L2.St → XK) (t tk : TA) : TE := fun σ H Q => t σ H fun vs H1 => tk σ H1 fun zs H2 => vs.length = n ∧ zs.length = m ∧ sp (gV vs zs) H2 Q (E σ)
theorem run_fnNS {pins : List (Addr × Obj)} {σ : L2.St} {H : Hp} {s : Shared} {Q : VK} {us ws : List Value} {vs zs : List V} (F : FnOk X.prog X.w X.K X.mg X.base CX k f fd ps sp) (hr : Room k X.A) (hb : KBn X.K fd ps n ks g gV) (hx : PassesAt CX X σ (E σ))
    (I : Inv X pins σ H s) (r : Vals vs us) (rz : Vals zs ws) (l1 : vs.length = n) (l2 : zs.length = ks.length) (h : sp (gV vs zs) H Q (E σ)) : wpAny (model X.prog X.w) X.A (call (.ref f) us (ks.zip ws)) (EP X pins σ Q) X.xe s := by iterate
  have r2 := hb.rel r rz
  refine wpAny_call (codeAny_mono (F.run X.A X.stack s H ⟨us, ks.zip ws⟩ (g us ws) (gV vs zs) Q (E σ) hr I.env0 (hb.to s us ws I.kIn (r.length.symm.trans l1) (rz.length.symm.trans l2)) r2 h) fun r s' hq => ?_)
  cases r with
  | error e => exact hx pins H s e s' I hq
  | ok fl =>
    cases fl with
    | ret u => exact I.after hq
    | next => exact False.elim hq
    | brk => exact False.elim hq
    | cont => exact False.elim hq
theorem pe_callNS (F : FnOk X.prog X.w X.K X.mg X.base CX k f fd ps sp) (hr : Room k X.A) (hg : Gl X x) (hm : X.mg x = some (.ref f)) (hk : PySem.W.keepIn X.K (.ref f) = true) (hb : KBn X.K fd ps n ks g gV) (hx : ∀ σ, PassesAt CX X σ (E σ))
    (ha : PA X (e :: es) t) (hkw : PK X kws tk) (hall : (backToKw pos (keywordEach kws X.env)).all (·.1.isSome) = true) (hks : (backToKw pos (keywordEach kws X.env)).filterMap (·.1) = ks)
    (hdb : (x == ("__debug__" : Str)) = false) (he : starEach (e :: es) X.env = (false, eval e X.env) :: starEach es X.env)
    (hpl : ((backTo pos (starEach (e :: es) X.env)).any (·.1) || (backToKw pos (keywordEach kws X.env)).any (·.1.isNone)) = false) :
    PE X (.Call (.Name x p) (e :: es) kws pos) (tCallNS n ks.length sp gV E t tk) := by
  refine ⟨fun pins s σ H Q I h => ?_⟩
  refine wpAny_Call_Name_kw (ld_glob I hg hm ?_ hdb)
  refine PySem.W.callWith_KW (h₀ := X.base) I.ok.mod.kin hk hall (thn (ha.run pos pins s σ H _ I h) fun us s1 ⟨vs, H1, I1, r, q⟩ => ?_) hpl he
  refine thn (hkw.run pos pins s1 σ H1 _ I1 q) fun ws s2 ⟨zs, H2, I2, rz, l1, l2, q2⟩ => ⟨I2.kIn, ?_⟩
  rw [hks]
  exact run_fnNS F hr hb (hx σ) I2 r rz l1 l2 q2
end
theorem _root_.L2.PK.imp {X : Cx} {e : List Keyword} {t t' : TA} (h : PK X e t) (k : ∀ σ H Q, t' σ H Q → t σ H Q) : PK X e t' := ⟨fun pos pins s σ H Q I hw => h.run pos pins s σ H Q I (k σ H Q hw)⟩
/-- a call of a def -/
def cCall (m : List D → List Sl → Res Rv) (n j : Nat) (gD : List D → List D → List D) (cs ks : M (List D)) : M Rv := fun ρ S => (cs ρ S).bind fun ds ρ S => (ks ρ S).bind fun es ρ S =>
  if ds.length = n ∧ es.length = j then (m (gD ds es) S).at ρ else .bad
section
variable {X : Cx} {Γ : Gm} {W : WX} {k n np : Nat} {f : Addr} {fd : FuncData} {ps ks : List Str} {x : Str} {p pos kpos : Pos} {e : Expr} {es : List Expr} {kws : List Keyword} {c : M Rv} {cs ck : M (List D)} {m : List D → List Sl → Res Rv} {gD : List D → List D → List D} {nm : Option Str}
theorem pmk_nil : PK X [] (tMl Γ W cNilD) := pk_nil.imp fun σ H Q ⟨F, E, C, R, ρ, S, rel, ck⟩ => ck ⟨F, E, C, R, H⟩ [] (.refl _) (fun _ => rfl) rel (by rw [RepL])
theorem pmk_cons (ha : PE X e (tM Γ W c)) (hr : PK X kws (tMl Γ W cs)) : PK X (⟨nm, e, kpos⟩ :: kws) (tMl Γ W (cConsD c cs)) :=
  (pk_cons ha hr).imp fun σ H Q ⟨F, E, C, R, ρ, S, rel, ck⟩ => ⟨F, E, C, R, ρ, S, rel, CKl.datum ck fun d ρ1 S1 w1 v1 x1 rel1 o1 ck1 =>
    ⟨w1.F, w1.E, w1.C, w1.R, ρ1, S1, rel1, CKl.bind ck1 fun ds ρ2 S2 w2 vs x2 rel2 o2 ck2 => ck2 w2 _ (.refl _) (fun _ => rfl) rel2 (by rw [RepL]; exact ⟨v1, vs, rfl, Rep.up x2.gr _ _ o1, o2⟩)⟩⟩
theorem call_core {gV : List V → List V → List V} (hD : ∀ R F ds vs es zs, RepL Γ R F ds vs → RepL Γ R F es zs → vs.length = n → zs.length = ks.length → RepL Γ R F (gD ds es) (gV vs zs) ∧ (gD ds es).length = ps.length) {σ : L2.St} {H : Hp} {Q : VK}
    (h : tM Γ W (cCall m n ks.length gD cs ck) σ H Q) : tCallNS n ks.length (spM Γ ps.length m) gV (WE W) (tMl Γ W cs) (tMl Γ W ck) σ H Q := by iterate
  obtain ⟨F, E, C, R, ρ, S, rel, h⟩ := h
  refine ⟨F, E, C, R, ρ, S, rel, CKl.bindV h fun ds ρ1 S1 w1 vs x1 rel1 o1 ck1 => ⟨w1.F, w1.E, w1.C, w1.R, ρ1, S1, rel1, CKl.bindV ck1 fun es ρ2 S2 w2 zs x2 rel2 o2 ck2 => ?_⟩⟩
  split at ck2
  · rename_i hl
    have l1 : vs.length = n := by rw [← o1.length]; exact hl.1
    have l2 : zs.length = ks.length := by rw [← o2.length]; exact hl.2
    obtain ⟨r, ln⟩ := hD w2.R w2.F ds vs es zs (o1.up x2.gr) o2 l1 l2
    exact ⟨l1, l2, rel2.spM r ln ck2⟩
  · exact ck2.elim
theorem pm_call (F : FnOk X.prog X.w X.K X.mg X.base (L2.CX X.prog X.w) k f fd ps (spM Γ ps.length m)) (hr : Room k X.A) (hg : Gl X x) (hm : X.mg x = some (.ref f)) (hk : PySem.W.keepIn X.K (.ref f) = true) (hb : CallB Γ X.K fd ps n ks gD) (tk : Takes X W)
    (ha : PA X (e :: es) (tMl Γ W cs)) (hkw : PK X kws (tMl Γ W ck)) (hall : (backToKw pos (keywordEach kws X.env)).all (·.1.isSome) = true) (hks : (backToKw pos (keywordEach kws X.env)).filterMap (·.1) = ks)
    (hdb : (x == ("__debug__" : Str)) = false) (he : starEach (e :: es) X.env = (false, eval e X.env) :: starEach es X.env)
    (hpl : ((backTo pos (starEach (e :: es) X.env)).any (·.1) || (backToKw pos (keywordEach kws X.env)).any (·.1.isNone)) = false) :
    PE X (.Call (.Name x p) (e :: es) kws pos) (tM Γ W (cCall m n ks.length gD cs ck)) := by
  obtain ⟨g, gV, hb, hD⟩ := hb
  exact (pe_callNS F hr hg hm hk hb (fun σ => passAt tk σ) ha hkw hall hks hdb he hpl).imp fun _ _ _ h => call_core hD h
end
end DV
namespace DV
open PySem PySem.Spec PyProof.Rows L2
inductive Fl where
  | nx | rt (r : Rv) | bk | ct
section
variable (Γ : Gm) (W : WX) (P : List Nat)
/-- the pinned slots stand as they stood -/
def Pin (σ0 σ : L2.St) : Prop := ∀ i ∈ P, σ[i]? = σ0[i]?
/-- what a statement's outcome owes -/
def SK (w : Wd) (σ0 : L2.St) (D : Ends) : Res Fl → Prop
  | .ok .nx ρ' S' _ => ∀ w' σ', Ext w w' → Pin P σ0 σ' → Rel Γ w' ρ' S' σ' → D.nx σ' w'.H
  | .ok (.rt r) ρ' S' _ => ∀ w' σ' v, Ext w w' → Pin P σ0 σ' → Rel Γ w' ρ' S' σ' → RvOk Γ w w' [] r v → D.rt v w'.H
  | .ok .bk ρ' S' _ => ∀ w' σ', Ext w w' → Pin P σ0 σ' → Rel Γ w' ρ' S' σ' → D.bk σ' w'.H
  | .ok .ct ρ' S' _ => ∀ w' σ', Ext w w' → Pin P σ0 σ' → Rel Γ w' ρ' S' σ' → D.ct σ' w'.H
  | .ex x ρ' S' => ∀ w' σ' cls d, Ext w w' → Pin P σ0 σ' → Rel Γ w' ρ' S' σ' → XOk Γ w' x cls d → W cls d σ' w'.H
  | .bad => False
def tS (c : M Fl) : TS := fun D σ H => ∃ F E C R ρ S, Rel Γ ⟨F, E, C, R, H⟩ ρ S σ ∧ SK Γ W P ⟨F, E, C, R, H⟩ σ D (c ρ S)
end
section
variable {Γ : Gm} {W : WX} {P : List Nat} {w w1 w2 : Wd} {σ σ0 σ1 : L2.St} {ρ S : List Sl} {D : Ends}
theorem Pin.refl : Pin P σ σ := fun _ _ => rfl
theorem Pin.trans {σ2 : L2.St} (a : Pin P σ0 σ1) (b : Pin P σ1 σ2) : Pin P σ0 σ2 := fun i h => (b i h).trans (a i h)
theorem SK.ext {r : Res Fl} (x : Ext w w1) (p : Pin P σ0 σ1) (h : SK Γ W P w σ0 D r) : SK Γ W P w1 σ1 D r := by iterate
  cases r with
  | ok f ρ S t =>
    cases f with
    | nx => exact fun w2 σ2 x2 p2 R2 => h w2 σ2 (x.trans x2) (p.trans p2) R2
    | rt r => exact fun w2 σ2 v x2 p2 R2 o2 => h w2 σ2 v (x.trans x2) (p.trans p2) R2 (o2.base x)
    | bk => exact fun w2 σ2 x2 p2 R2 => h w2 σ2 (x.trans x2) (p.trans p2) R2
    | ct => exact fun w2 σ2 x2 p2 R2 => h w2 σ2 (x.trans x2) (p.trans p2) R2
  | ex y ρ S => exact fun w2 σ2 cls d x2 p2 R2 o2 => h w2 σ2 cls d (x.trans x2) (p.trans p2) R2 o2
  | bad => exact h
theorem SK.addt {t : Bool} {r : Res Fl} : SK Γ W P w σ D (r.addt t) ↔ SK Γ W P w σ D r := by
  cases r with
  | ok f ρ S t' => cases f <;> exact Iff.rfl
  | ex _ _ _ => exact Iff.rfl
  | bad => exact Iff.rfl
/-- an expression, then a statement's rest -/
theorem CK.bindS {r : Res Rv} {f : Rv → List Sl → List Sl → Res Fl} {Q1 : VK} (h : SK Γ W P w σ D (r.bind f))
    (k : ∀ a ρ S w' v, Ext w w' → Rel Γ w' ρ S σ → RvOk Γ w w' σ a v → SK Γ W P w σ D (f a ρ S) → Q1 v w'.H) : CK Γ W w σ Q1 r := by
  cases r with
  | ok a ρ S t => exact fun w2 v x2 e2 R2 o2 => k a ρ S w2 v x2 R2 o2 (SK.addt.mp h)
  | ex y ρ S => exact fun w2 cls d x2 R2 o2 => h w2 σ cls d x2 .refl R2 o2
  | bad => exact h
theorem CK.datumS {c : M Rv} {f : DV.D → List Sl → List Sl → Res Fl} {Q1 : VK} (h : SK Γ W P w σ D ((cD c ρ S).bind f))
    (k : ∀ d ρ' S' w' v, Ext w w' → Rel Γ w' ρ' S' σ → Rep Γ w'.R w'.F d v → SK Γ W P w σ D (f d ρ' S') → Q1 v w'.H) : CK Γ W w σ Q1 (c ρ S) := by
  refine CKd.of (Qd := fun _ _ _ => True) ?_ fun d ρ' S' t w' v x e r o q => ?_
  · cases q : cD c ρ S with
    | ok a ρ1 S1 t => exact fun _ _ _ _ _ _ => True.intro
    | ex y ρ1 S1 => rw [q] at h; exact fun w2 cls d x2 R2 o2 => h w2 σ cls d x2 .refl R2 o2
    | bad => rw [q] at h; exact h
  · rw [q, Res.bind_ok] at h
    exact k d ρ' S' w' v x r o (SK.addt.mp h)
theorem CKb.bindS {r : Res Bool} {f : Bool → List Sl → List Sl → Res Fl} {Q1 : Bool → Hp → Prop} (h : SK Γ W P w σ D (r.bind f))
    (k : ∀ a ρ S w', Ext w w' → Rel Γ w' ρ S σ → SK Γ W P w σ D (f a ρ S) → Q1 a w'.H) : CKb Γ W w σ Q1 r := by
  cases r with
  | ok a ρ S t => exact fun w2 x2 e2 R2 => k a ρ S w2 x2 R2 (SK.addt.mp h)
  | ex y ρ S => exact fun w2 cls d x2 R2 o2 => h w2 σ cls d x2 .refl R2 o2
  | bad => exact h
end
def cNx : M Fl := fun ρ S => .ok .nx ρ S false
def cSeq (a b : M Fl) : M Fl := fun ρ S => match a ρ S with
  | .ok .nx ρ S _ => b ρ S
  | r => r
def cDrop (c : M Rv) : M Fl := fun ρ S => (c ρ S).bind fun _ ρ S => .ok .nx ρ S false
def cIfS (t : M Bool) (a b : M Fl) : M Fl := fun ρ S => (t ρ S).bind fun k ρ S => if k = true then a ρ S else b ρ S
/-- what is handed back: an own thing leaves its slot -/
def outR (r : Rv) : M Rv := fun ρ S => match r with
  | .env i => match ρ[i]? with
    | some s => if s.own? then .ok (.fr s) (ρ.set i .emp) S true else .bad
    | none => .bad
  | r => .ok r ρ S false
def cRet (c : M Rv) : M Fl := fun ρ S => (c ρ S).bind fun r ρ S => (outR r ρ S).bind fun r ρ S => .ok (.rt r) ρ S false
def cRetN : M Fl := fun ρ S => .ok (.rt (.d .non)) ρ S false
section
variable {X : Cx} {Γ : Gm} {W : WX} {P : List Nat} {st : Stmt} {rest : List Stmt} {e : Expr} {a b : M Fl} {c : M Rv} {t : M Bool} {pos : Pos}
theorem pms_nil : PSs X [] (tS Γ W P cNx) := pss_nil.imp fun D σ H ⟨F, E, C, R, ρ, S, rel, sk⟩ => sk ⟨F, E, C, R, H⟩ σ (.refl _) .refl rel
theorem seq_core {D : Ends} {σ : L2.St} {H : Hp} (h : tS Γ W P (cSeq a b) D σ H) : tSeq (tS Γ W P a) (tS Γ W P b) D σ H := by
  obtain ⟨F, E, C, R, ρ, S, rel, sk⟩ := h
  refine ⟨F, E, C, R, ρ, S, rel, ?_⟩
  unfold cSeq at sk
  cases q : a ρ S with
  | ok f ρ1 S1 t =>
    rw [q] at sk
    cases f with
    | nx => exact fun w1 σ1 x1 p1 r1 => ⟨w1.F, w1.E, w1.C, w1.R, ρ1, S1, r1, SK.ext x1 p1 sk⟩
    | rt r => exact sk
    | bk => exact sk
    | ct => exact sk
  | ex y ρ1 S1 => rw [q] at sk; exact sk
  | bad => rw [q] at sk; exact sk
theorem pms_cons (h1 : PS X st (tS Γ W P a)) (h2 : PSs X rest (tS Γ W P b)) : PSs X (st :: rest) (tS Γ W P (cSeq a b)) := (pss_cons h1 h2).imp fun _ _ _ h => seq_core h
theorem pms_one (h1 : PS X st (tS Γ W P a)) : PSs X [st] (tS Γ W P a) := pss_one h1
theorem out_ok {w0 w1 : Wd} {σ : L2.St} {ρ S : List Sl} {r r' : Rv} {ρ' S' : List Sl} {t : Bool} {v : V} (x : Ext w0 w1) (h : Rel Γ w1 ρ S σ) (o : RvOk Γ w0 w1 σ r v) (e : outR r ρ S = .ok r' ρ' S' t) :
    ∃ w2, w2.H = w1.H ∧ Ext w0 w2 ∧ Rel Γ w2 ρ' S' σ ∧ RvOk Γ w0 w2 [] r' v := by iterate
  cases r with
  | d _ => cases e; exact ⟨w1, rfl, x, h, o⟩
  | fr _ => cases e; exact ⟨w1, rfl, x, h, o⟩
  | env i =>
    have o' : σ[i]? = some (some v) := o
    unfold outR at e
    cases q : ρ[i]? with
    | none => simp [q] at e
    | some s =>
      simp only [q] at e
      split at e
      · rename_i hs
        cases e
        obtain ⟨o2, A, B, b, h1, h2, h3, h4⟩ := h.own.env_at q
        rw [o'] at h1; cases h1
        obtain ⟨v', e', ow⟩ := h3.of_own hs
        cases e'
        have g := h.good
        have eAd : w1.ad = A.map (·.1) ++ b.map (·.1) ++ (B ++ w1.C).map (·.1) := by show (w1.E ++ w1.C).map _ = _; rw [h2]; simp
        have nd := g.nd
        rw [eAd] at nd
        obtain ⟨q1, q2, q3⟩ := List.nodup_append.mp nd
        obtain ⟨q4, ndb, q6⟩ := List.nodup_append.mp q1
        have mem : ∀ p, p ∈ A ++ B ++ w1.C → p ∈ w1.E ++ w1.C := fun p hp => by
          rw [h2]
          simp only [List.mem_append] at hp ⊢
          rcases hp with (z | z) | z <;> simp [z]
        have out : ∀ a, a ∈ b.map (·.1) → a ∉ (A ++ B ++ w1.C).map (·.1) := fun a z y => by
          have hp : a ∈ A.map (·.1) ∨ a ∈ (B ++ w1.C).map (·.1) := by simp only [List.map_append, List.mem_append] at y ⊢; rcases y with (y | y) | y <;> simp [y]
          rcases hp with y | y
          · exact q6 _ y _ z rfl
          · exact q3 _ (List.mem_append_right _ z) _ y rfl
        refine ⟨{ w1 with E := A ++ B }, rfl, ⟨x.gr, x.keep, fun a z => ?_, x.fnew, x.live⟩, ⟨⟨g.sub, fun p hp => g.cell p (mem p hp), ?_⟩, ?_⟩, b, ow, ⟨fun p hp => ?_, ndb⟩, fun p hp => ?_⟩
        · obtain ⟨p, hp, rfl⟩ := List.mem_map.mp z
          exact x.cnew _ (List.mem_map_of_mem (mem p hp))
        · show ((A ++ B ++ w1.C).map (·.1)).Nodup
          rw [List.append_assoc, List.map_append]
          exact List.nodup_append.mpr ⟨q4, q2, fun a ha c hc => q3 a (List.mem_append_left _ ha) c hc⟩
        · have z := h4 w1.F (fun _ _ h => h) .emp (some v) [] rfl
          rw [set_same o'] at z
          simpa using z
        · have hc := g.cell p (by rw [h2]; simp [hp])
          exact ⟨hc.1, hc.2, out _ (List.mem_map_of_mem hp)⟩
        · rcases x.cnew p.1 (by rw [eAd]; simp only [List.mem_append]; exact .inl (.inr (List.mem_map_of_mem hp))) with z | z
          · exact .inr z
          · exact .inl z
      · cases e
theorem pms_ret (he : PE X e (tM Γ W c)) : PS X (.Return (some e) pos) (tS Γ W P (cRet c)) :=
  (ps_ret he).imp fun D σ H ⟨F, E, C, R, ρ, S, rel, sk⟩ => ⟨F, E, C, R, ρ, S, rel, CK.bindS sk fun r ρ1 S1 w1 v x1 rel1 o1 sk1 => by iterate
    cases q : outR r ρ1 S1 with
    | ok r2 ρ2 S2 t2 =>
      rw [q, Res.bind_ok] at sk1
      obtain ⟨w2, eH, x2, rel2, o2⟩ := out_ok x1 rel1 o1 q
      rw [← eH]
      exact (SK.addt.mp sk1) w2 σ v x2 .refl rel2 o2
    | ex y ρ2 S2 =>
      exfalso
      unfold outR at q
      cases r with
      | d _ => simp at q
      | fr _ => simp at q
      | env i =>
        simp only at q
        split at q
        · split at q <;> simp at q
        · simp at q
    | bad => rw [q] at sk1; exact sk1.elim⟩
theorem pms_if {g : Expr} {x y : List Stmt} (hc : PT X g (tMb Γ W t)) (ha : PSs X x (tS Γ W P a)) (hb : PSs X y (tS Γ W P b)) : PS X (.If g x y pos) (tS Γ W P (cIfS t a b)) :=
  (ps_if hc ha hb).imp fun D σ H ⟨F, E, C, R, ρ, S, rel, sk⟩ => ⟨F, E, C, R, ρ, S, rel, CKb.bindS sk fun k ρ1 S1 w1 x1 rel1 sk1 => by
    cases k with
    | true => exact ⟨w1.F, w1.E, w1.C, w1.R, ρ1, S1, rel1, SK.ext x1 .refl sk1⟩
    | false => exact ⟨w1.F, w1.E, w1.C, w1.R, ρ1, S1, rel1, SK.ext x1 .refl sk1⟩⟩
end
/-- into a slot: own keeps a new thing as the slot's own -/
def setS (own : Bool) (i : Nat) (r : Rv) : M Fl := fun ρ S => match own, r with
  | true, .fr s => if i < ρ.length then .ok .nx (ρ.set i s) S false else .bad
  | _, r => (toD r ρ S).bind fun d ρ S => if i < ρ.length then .ok .nx (ρ.set i (.val d)) S false else .bad
section
variable {X : Cx} {Γ : Gm} {W : WX} {P : List Nat} {w0 w1 : Wd} {σ : L2.St} {ρ S : List Sl}
/-- a slot is overwritten -/
theorem Rel.setSlot {i : Nat} {s' : Sl} {v : V} {c : Cells} (x : Ext w0 w1) (h : Rel Γ w1 ρ S σ) (hi : i < ρ.length) (ow : Own Γ w1.R w1.F s' v c) (f : Fresh w1 c) (b : ∀ p ∈ c, w0.H p.1 = none ∨ p.1 ∈ w0.ad) :
    ∃ w2, w2.H = w1.H ∧ Ext w0 w2 ∧ Rel Γ w2 (ρ.set i s') S (σ.set i (some v)) := by iterate
  obtain ⟨s, hs⟩ : ∃ s, ρ[i]? = some s := ⟨ρ[i], by simp [hi]⟩
  obtain ⟨o2, A, B, b2, h1, h2, h3, h4⟩ := h.own.env_at hs
  have g := h.good
  have eAd : w1.ad = A.map (·.1) ++ b2.map (·.1) ++ (B ++ w1.C).map (·.1) := by show (w1.E ++ w1.C).map _ = _; rw [h2]; simp
  have nd := g.nd
  rw [eAd] at nd
  obtain ⟨q1, q2, q3⟩ := List.nodup_append.mp nd
  obtain ⟨q4, q5, q6⟩ := List.nodup_append.mp q1
  have mem : ∀ p, p ∈ A ++ c ++ B ++ w1.C → p ∈ w1.E ++ w1.C ∨ p ∈ c := fun p hp => by
    rw [h2]
    simp only [List.mem_append] at hp ⊢
    rcases hp with ((z | z) | z) | z <;> simp [z]
  have inAd : ∀ a, a ∈ A.map (·.1) ∨ a ∈ (B ++ w1.C).map (·.1) → a ∈ w1.ad := fun a z => by
    rw [eAd]
    rcases z with z | z
    · exact List.mem_append_left _ (List.mem_append_left _ z)
    · exact List.mem_append_right _ z
  refine ⟨{ w1 with E := A ++ c ++ B }, rfl, ⟨x.gr, x.keep, fun a z => ?_, x.fnew, x.live⟩, ⟨⟨g.sub, fun p hp => ?_, ?_⟩, h4 w1.F (fun _ _ h => h) s' (some v) c (.mk ow)⟩⟩
  · obtain ⟨p, hp, rfl⟩ := List.mem_map.mp z
    rcases mem p hp with y | y
    · exact x.cnew _ (List.mem_map_of_mem y)
    · rcases b p y with y | y
      · exact .inr y
      · exact .inl y
  · rcases mem p hp with y | y
    · exact g.cell p y
    · exact ⟨(f.at_ p y).1, (f.at_ p y).2.1⟩
  · show ((A ++ c ++ B ++ w1.C).map (·.1)).Nodup
    have e : (A ++ c ++ B ++ w1.C).map (·.1) = (A.map (·.1) ++ c.map (·.1)) ++ (B ++ w1.C).map (·.1) := by simp
    rw [e]
    have fr : ∀ a ∈ c.map (·.1), a ∉ w1.ad := fun a z => by
      obtain ⟨p, hp, rfl⟩ := List.mem_map.mp z
      exact (f.at_ p hp).2.2
    refine List.nodup_append.mpr ⟨List.nodup_append.mpr ⟨q4, f.nd, fun a ha b hb e => fr b hb (inAd b (.inl (e ▸ ha)))⟩, q2, fun a ha b hb e => ?_⟩
    rcases List.mem_append.mp ha with z | z
    · exact q3 a (List.mem_append_left _ z) b hb e
    · exact fr a z (inAd a (.inr (e ▸ hb)))
theorem Rel.setVal {i : Nat} {d : D} {v : V} (h : Rel Γ w1 ρ S σ) (hi : i < ρ.length) (r : Rep Γ w1.R w1.F d v) : ∃ w2, w2.H = w1.H ∧ Ext w1 w2 ∧ Rel Γ w2 (ρ.set i (.val d)) S (σ.set i (some v)) ∧ w2.F = w1.F ∧ w2.R = w1.R := by iterate
  obtain ⟨s, hs⟩ : ∃ s, ρ[i]? = some s := ⟨ρ[i], by simp [hi]⟩
  obtain ⟨o2, A, B, b2, h1, h2, h3, h4⟩ := h.own.env_at hs
  have g := h.good
  have eAd : w1.ad = A.map (·.1) ++ b2.map (·.1) ++ (B ++ w1.C).map (·.1) := by show (w1.E ++ w1.C).map _ = _; rw [h2]; simp
  have nd := g.nd
  rw [eAd] at nd
  obtain ⟨q1, q2, q3⟩ := List.nodup_append.mp nd
  obtain ⟨q4, q5, q6⟩ := List.nodup_append.mp q1
  have mem : ∀ p, p ∈ A ++ B ++ w1.C → p ∈ w1.E ++ w1.C := fun p hp => by
    rw [h2]
    simp only [List.mem_append] at hp ⊢
    rcases hp with (z | z) | z <;> simp [z]
  refine ⟨{ w1 with E := A ++ B }, rfl, ⟨.refl, fun _ _ h _ => h, fun a z => ?_, fun _ _ h => .inl h, fun _ o h => ⟨o, h⟩⟩, ⟨⟨g.sub, fun p hp => g.cell p (mem p hp), ?_⟩, ?_⟩, rfl, rfl⟩
  · obtain ⟨p, hp, rfl⟩ := List.mem_map.mp z
    exact .inl (List.mem_map_of_mem (mem p hp))
  · show ((A ++ B ++ w1.C).map (·.1)).Nodup
    rw [List.append_assoc, List.map_append]
    exact List.nodup_append.mpr ⟨q4, q2, fun a ha c hc => q3 a (List.mem_append_left _ ha) c hc⟩
  · have z := h4 w1.F (fun _ _ h => h) (.val d) (some v) [] ⟨v, rfl, by rw [Own]; exact ⟨rfl, r⟩⟩
    simpa using z
theorem Pin.set {i : Nat} {o : Option V} (h : i ∉ P) : Pin P σ (σ.set i o) := fun j hj => List.getElem?_set_ne fun e => h (by rw [e]; exact hj)
theorem setS_ok {D : Ends} {own : Bool} {i : Nat} {r : Rv} {v : V} (hp : i ∉ P) (x : Ext w0 w1) (h : Rel Γ w1 ρ S σ) (o : RvOk Γ w0 w1 σ r v) (sk : SK Γ W P w0 σ D (setS own i r ρ S)) : D.nx (σ.set i (some v)) w1.H := by iterate
  have data : SK Γ W P w0 σ D ((toD r ρ S).bind fun d ρ S => if i < ρ.length then .ok .nx (ρ.set i (.val d)) S false else .bad) → D.nx (σ.set i (some v)) w1.H := fun sk => by
    cases q : toD r ρ S with
    | ok d ρ2 S2 t =>
      rw [q, Res.bind_ok] at sk
      have sk := SK.addt.mp sk
      obtain ⟨w2, eH, x2, r2, rep, _⟩ := toD_ok x h o q
      split at sk
      · rename_i hi
        obtain ⟨w3, e3, x3, r3, _, _⟩ := r2.setVal hi rep
        have z := sk w3 (σ.set i (some v)) (x2.trans x3) (.set hp) r3
        rw [e3, eH] at z
        exact z
      · exact sk.elim
    | ex y _ _ => exact absurd q toD_noex
    | bad => rw [q] at sk; exact sk.elim
  unfold setS at sk
  cases own with
  | false => exact data sk
  | true =>
    cases r with
    | d _ => exact data sk
    | env _ => exact data sk
    | fr s =>
      simp only at sk
      split at sk
      · rename_i hi
        obtain ⟨c, ow, f, b⟩ := o
        obtain ⟨w2, eH, x2, r2⟩ := Rel.setSlot x h hi ow f b
        have z := sk w2 (σ.set i (some v)) x2 (.set hp) r2
        rw [eH] at z
        exact z
      · exact sk.elim
/-- name = e -/
def cSet (own : Bool) (i : Nat) (c : M Rv) : M Fl := fun ρ S => (c ρ S).bind fun r ρ S => setS own i r ρ S
theorem pms_set {x : Str} {e : Expr} {c : M Rv} {own : Bool} {i : Nat} {pos npos : Pos} (he : PE X e (tM Γ W c)) (hp : i ∉ P) (hN : X.N.Nodup) (hi : X.N[i]? = some x) (hx : Loc X.env.scope x) (hf : X.fn x = true ∨ X.env.scope.names.lookup x = some .local)
    (hs : swapsWithSole [.Name x npos] e pos.line X.env = pure false) (hw : swappedStores [.Name x npos] e X.env = pure none) : PS X (.Assign [.Name x npos] e pos) (tS Γ W P (cSet own i c)) :=
  (ps_asg he (pg_name hN hi hx hf) hs hw).imp fun D σ H ⟨F, E, C, R, ρ, S, rel, sk⟩ => ⟨F, E, C, R, ρ, S, rel, CK.bindS sk fun r ρ1 S1 w1 v x1 rel1 o1 sk1 => setS_ok hp x1 rel1 o1 sk1⟩
end
end DV
namespace DV
open PySem PySem.Spec PyProof.Rows L2
inductive Tgt where
  | nm (i : Nat) | tp (is : List Nat)
def Tgt.slots : Tgt → List Nat
  | .nm i => [i]
  | .tp is => is
def bindL : List Nat → List D → List Sl → Option (List Sl)
  | [], [], ρ => some ρ
  | i :: is, d :: ds, ρ => if i < ρ.length then bindL is ds (ρ.set i (.val d)) else none
  | _, _, _ => none
def bindT : Tgt → D → List Sl → Option (List Sl)
  | .nm i, d, ρ => if i < ρ.length then some (ρ.set i (.val d)) else none
  | .tp is, .tup ds, ρ => bindL is ds ρ
  | _, _, _ => none
def gNames : List Nat → TGs
  | [] => gNil
  | i :: is => gCons (gName i) (gNames is)
/-- the target of that reading binds as the data do -/
def TgOk (Γ : Gm) (t : TG) (g : Tgt) : Prop := ∀ (w : Wd) (ρ S : List Sl) (σ : L2.St) (d : D) (v : V) (ρ' : List Sl) (Q : L2.St → Hp → Prop), Rel Γ w ρ S σ → Rep Γ w.R w.F d v → bindT g d ρ = some ρ' →
  (∀ w' σ', w'.H = w.H → Ext w w' → w'.F = w.F → w'.R = w.R → Rel Γ w' ρ' S σ' → (∀ j, j ∉ g.slots → σ'[j]? = σ[j]?) → σ'.length = σ.length → Q σ' w'.H) → t v σ w.H Q
section
variable {Γ : Gm}
theorem tg_nm (i : Nat) : TgOk Γ (gName i) (.nm i) := by
  intro w ρ S σ d v ρ' Q h r e k
  simp only [bindT] at e
  split at e
  · rename_i hi
    cases e
    obtain ⟨w2, eH, x2, r2, eF, eR⟩ := h.setVal hi r
    have z := k w2 (σ.set i (some v)) eH x2 eF eR r2 (fun j hj => List.getElem?_set_ne fun e => hj (by rw [e]; simp [Tgt.slots])) (by simp)
    rw [eH] at z
    exact z
  · cases e
theorem tg_names : ∀ (is : List Nat) (w : Wd) (ρ S : List Sl) (σ : L2.St) (ds : List D) (vs : List V) (ρ' : List Sl) (Q : L2.St → Hp → Prop), Rel Γ w ρ S σ → RepL Γ w.R w.F ds vs → bindL is ds ρ = some ρ' →
    (∀ w' σ', w'.H = w.H → Ext w w' → w'.F = w.F → w'.R = w.R → Rel Γ w' ρ' S σ' → (∀ j, j ∉ is → σ'[j]? = σ[j]?) → σ'.length = σ.length → Q σ' w'.H) → gNames is vs σ w.H Q
  | [], w, ρ, S, σ, ds, vs, ρ', Q, h, l, e, k => by
    cases ds with
    | nil =>
      simp only [bindL, Option.some.injEq] at e
      subst e
      rw [RepL] at l
      exact ⟨l, k w σ rfl (.refl _) rfl rfl h (fun _ _ => rfl) rfl⟩
    | cons _ _ => simp [bindL] at e
  | i :: is, w, ρ, S, σ, ds, vs, ρ', Q, h, l, e, k => by iterate
    cases ds with
    | nil => simp [bindL] at e
    | cons d ds =>
      simp only [bindL] at e
      split at e
      · rename_i hi
        rw [RepL] at l
        obtain ⟨v, vs', e1, r, l⟩ := l
        obtain ⟨w2, eH, x2, r2, eF, eR⟩ := h.setVal hi r
        refine ⟨v, vs', e1, ?_⟩
        show gNames is vs' (σ.set i (some v)) w.H Q
        rw [← eH]
        refine tg_names is w2 _ S _ ds vs' ρ' Q r2 (by rw [eF, eR]; exact l) e fun w3 σ3 eH3 x3 eF3 eR3 r3 same len => ?_
        refine k w3 σ3 (eH3.trans eH) (x2.trans x3) (eF3.trans eF) (eR3.trans eR) r3 (fun j hj => ?_) (by rw [len]; simp)
        rw [same j fun z => hj (List.mem_cons_of_mem _ z)]
        exact List.getElem?_set_ne fun e => hj (by rw [e]; simp)
      · cases e
theorem tg_tp {K : PySem.W.Frag} {is : List Nat} {n : Nat} (hn : is.length = n) : TgOk Γ (gTup K n (gNames is)) (.tp is) := by iterate
  intro w ρ S σ d v ρ' Q h r e k
  cases d with
  | tup ds =>
    rw [Rep] at r
    obtain ⟨a, ys, ev, ha, l⟩ := r
    have len : ∀ (is : List Nat) (ds : List D) (ρ : List Sl), bindL is ds ρ = some ρ' → ds.length = is.length := by
      intro is
      induction is with
      | nil => intro ds ρ e; cases ds with | nil => rfl | cons _ _ => simp [bindL] at e
      | cons i is ih =>
        intro ds ρ e
        cases ds with
        | nil => simp [bindL] at e
        | cons d ds =>
          simp only [bindL] at e
          split at e
          · rw [List.length_cons, List.length_cons, ih _ _ e]
          · cases e
    exact ⟨a, ys, ev, SqT.of (h.good.sub _ _ ha), by rw [← l.length, len is ds ρ e]; exact hn, tg_names is w ρ S σ ds ys ρ' Q h l e k⟩
  | _ => cases e
end
structure Walk (Γ : Gm) (J : It) (ds : List D) (I : Wd → Prop) : Prop where
  up : ∀ w w', I w → Gr w.R w'.R w.F w'.F → I w'
  go : ∀ i w d, I w → Good w → ds[i]? = some d → J.go i w.H ∧ ∀ x H', J.yld i w.H x H' → ∃ w', w'.H = H' ∧ Ext w w' ∧ w'.E = w.E ∧ w'.C = w.C ∧ w'.R = w.R ∧ Good w' ∧ Rep Γ w'.R w'.F d x
  stop : ∀ w, I w → Good w → J.stop ds.length w.H
section
variable (Γ : Gm) (W : WX)
def CKi (w : Wd) (σ : L2.St) (Q : It → Hp → Prop) : Res (List D) → Prop
  | .ok ds ρ' S' _ => ∀ w' J I, Ext w w' → Rel Γ w' ρ' S' σ → I w' → Walk Γ J ds I → Q J w'.H
  | .ex x ρ' S' => ∀ w' cls d, Ext w w' → Rel Γ w' ρ' S' σ → XOk Γ w' x cls d → W cls d σ w'.H
  | .bad => False
def tI (c : M (List D)) : TI := fun σ H Q => ∃ F E C R ρ S, Rel Γ ⟨F, E, C, R, H⟩ ρ S σ ∧ CKi Γ W ⟨F, E, C, R, H⟩ σ Q (c ρ S)
end
theorem _root_.L2.PI.imp {X : Cx} {tg e : Expr} {t t' : TI} (h : PI X tg e t) (k : ∀ σ H Q, t' σ H Q → t σ H Q) : PI X tg e t' := ⟨fun pins s σ H Q I hw => h.run pins s σ H Q I (k σ H Q hw)⟩
theorem _root_.L2.PI.or {X : Cx} {tg e : Expr} {t t' : TI} (h : PI X tg e t) (h' : PI X tg e t') : PI X tg e (fun σ H Q => t σ H Q ∨ t' σ H Q) :=
  ⟨fun pins s σ H Q I hw => hw.elim (fun z => h.run pins s σ H Q I z) (fun z => h'.run pins s σ H Q I z)⟩
/-- the items of a datum -/
def D.its : D → Option (List D)
  | .str z => some (z.cps.toList.map fun c => .str ⟨#[c]⟩)
  | d => d.items
def cIts (c : M Rv) : M (List D) := fun ρ S => (cD c ρ S).bind fun d ρ S => match d.its with
  | some ds => .ok ds ρ S false
  | none => .bad
/-- range(n), range(a, b) -/
def rangeD (lo : Int) (n : Nat) : List D := (List.range n).map fun (i : Nat) => .int (lo + i)
def cRng1 (cs : M (List D)) : M (List D) := fun ρ S => (cs ρ S).bind fun ds ρ S => match ds with
  | [.int j] => if -(2 ^ 62) ≤ j ∧ j < 2 ^ 62 then .ok (rangeD 0 j.toNat) ρ S false else .bad
  | _ => .bad
def cRng2 (cs : M (List D)) : M (List D) := fun ρ S => (cs ρ S).bind fun ds ρ S => match ds with
  | [.int i, .int j] => if -(2 ^ 62) ≤ i ∧ i < 2 ^ 62 ∧ -(2 ^ 62) ≤ j ∧ j < 2 ^ 62 then .ok (rangeD i (j - i).toNat) ρ S false else .bad
  | _ => .bad
def enumD : Nat → List D → List D
  | _, [] => []
  | i, d :: ds => .tup [.int i, d] :: enumD (i + 1) ds
def zipD : List D → List D → List D
  | x :: xs, y :: ys => .tup [x, y] :: zipD xs ys
  | _, _ => []
def cZip (cs : M (List D)) : M (List D) := fun ρ S => (cs ρ S).bind fun ds ρ S => match ds with
  | [.lst xs, .lst ys] => .ok (zipD xs ys) ρ S false
  | [.tup xs, .tup ys] => .ok (zipD xs ys) ρ S false
  | [.tup xs, .kt ys] => .ok (zipD xs ys) ρ S false
  | [.kt xs, .tup ys] => .ok (zipD xs ys) ρ S false
  | _ => .bad
section
variable {X : Cx} {Γ : Gm} {W : WX} {w w0 w1 : Wd} {σ : L2.St} {ρ S : List Sl}
theorem CKl.bindI {r : Res (List D)} {f : List D → List Sl → List Sl → Res (List D)} {Q : It → Hp → Prop} {Q1 : List V → Hp → Prop} (h : CKi Γ W w σ Q (r.bind f))
    (k : ∀ a ρ S w' v, Ext w w' → Rel Γ w' ρ S σ → RepL Γ w'.R w'.F a v → CKi Γ W w σ Q (f a ρ S) → Q1 v w'.H) : CKl Γ W w σ Q1 r := by
  cases r with
  | ok a ρ S t =>
    rw [Res.bind_ok] at h
    refine fun w2 v x2 e2 R2 o2 => k a ρ S w2 v x2 R2 o2 ?_
    cases q2 : f a ρ S with
    | ok ds ρ2 S2 t2 => rw [q2] at h; exact h
    | ex y ρ2 S2 => rw [q2] at h; exact h
    | bad => rw [q2] at h; exact h
  | ex y ρ S => exact h
  | bad => exact h
theorem rep_up {R : List Addr} {F F' : Hp} (up : ∀ a u, F a = some u → F' a = some u) {d : D} {v : V} (h : Rep Γ R F d v) : Rep Γ R F' d v := Rep.up ⟨⟨[], by simp⟩, up⟩ _ _ h
theorem repL_up {w w' : Wd} (x : Gr w.R w'.R w.F w'.F) {d : List D} {v : List V} (h : RepL Γ w.R w.F d v) : RepL Γ w'.R w'.F d v := RepL.up x _ _ h
/-- a list that stands still -/
theorem walk_list {K : PySem.W.Frag} {ds : List D} {a : Addr} {ys : List V} : Walk Γ (Itl K a) ds (fun w => SqL K w.F a ys ∧ RepL Γ w.R w.F ds ys) where
  up := fun w w' h x => ⟨SqL.up x.f h.1, repL_up x h.2⟩
  go := fun i w d h g e => by
    obtain ⟨v, h1, h2⟩ := h.2.get e
    exact ⟨⟨ys, v, SqL.up g.sub h.1, h1⟩, fun x H' ⟨e1, e2⟩ => by
      subst e1
      have z := e2 ys (SqL.up g.sub h.1)
      rw [h1] at z; cases z
      exact ⟨w, rfl, .refl w, rfl, rfl, rfl, g, h2⟩⟩
  stop := fun w h g => ⟨ys, SqL.up g.sub h.1, by rw [h.2.length]; exact Nat.le_refl _⟩
theorem walk_tup {K : PySem.W.Frag} {ds : List D} {a : Addr} {ys : List V} : Walk Γ (Itt K a) ds (fun w => SqT K w.F a ys ∧ RepL Γ w.R w.F ds ys) where
  up := fun w w' h x => ⟨SqT.up x.f h.1, repL_up x h.2⟩
  go := fun i w d h g e => by
    obtain ⟨v, h1, h2⟩ := h.2.get e
    exact ⟨⟨ys, v, SqT.up g.sub h.1, h1⟩, fun x H' ⟨e1, e2⟩ => by
      subst e1
      have z := e2 ys (SqT.up g.sub h.1)
      rw [h1] at z; cases z
      exact ⟨w, rfl, .refl w, rfl, rfl, rfl, g, h2⟩⟩
  stop := fun w h g => ⟨ys, SqT.up g.sub h.1, by rw [h.2.length]; exact Nat.le_refl _⟩
theorem walk_str {z : Str} : Walk Γ (Its z) (z.cps.toList.map fun c => .str ⟨#[c]⟩) (fun _ => True) where
  up := fun _ _ h _ => h
  go := fun i w d h g e => by
    rw [List.getElem?_map] at e
    obtain ⟨c, e1, e2⟩ := Option.map_eq_some_iff.mp e
    subst e2
    have e1' : z.cps[i]? = some c := by simpa using e1
    have hi : i < z.cps.size := (Array.getElem?_eq_some_iff.mp e1').1
    exact ⟨hi, fun x H' ⟨e3, c', e4, e5⟩ => by
      subst e3 e5
      rw [e1'] at e4; cases e4
      exact ⟨w, rfl, .refl w, rfl, rfl, rfl, g, by rw [Rep]⟩⟩
  stop := fun w h g => by show z.cps.size ≤ _; simp
theorem walk_range {lo : Int} {n : Nat} : Walk Γ (Itr lo n) (rangeD lo n) (fun _ => True) where
  up := fun _ _ h _ => h
  go := fun i w d h g e => by
    unfold rangeD at e
    rw [List.getElem?_map] at e
    obtain ⟨c, e1, e2⟩ := Option.map_eq_some_iff.mp e
    subst e2
    obtain ⟨hi, ec⟩ := List.getElem?_eq_some_iff.mp e1
    rw [List.length_range] at hi
    rw [List.getElem_range] at ec
    subst ec
    exact ⟨hi, fun x H' ⟨e3, e4⟩ => by
      subst e3 e4
      exact ⟨w, rfl, .refl w, rfl, rfl, rfl, g, by rw [Rep]⟩⟩
  stop := fun w h g => by show n ≤ _; simp [rangeD]
theorem zipD_get : ∀ (xs ys : List D) (i : Nat) (d : D), (zipD xs ys)[i]? = some d → ∃ x y, xs[i]? = some x ∧ ys[i]? = some y ∧ d = .tup [x, y]
  | [], ys, i, d, e => by simp [zipD] at e
  | _ :: _, [], i, d, e => by simp [zipD] at e
  | x :: xs, y :: ys, 0, d, e => by simp [zipD] at e; exact ⟨x, y, by simp, by simp, e.symm⟩
  | x :: xs, y :: ys, i + 1, d, e => by
    obtain ⟨x', y', h1, h2, h3⟩ := zipD_get xs ys i d (by simpa [zipD] using e)
    exact ⟨x', y', by simpa using h1, by simpa using h2, h3⟩
theorem zipD_length : ∀ (xs ys : List D), (zipD xs ys).length = min xs.length ys.length
  | [], ys => by simp [zipD]
  | _ :: _, [] => by simp [zipD]
  | x :: xs, y :: ys => by rw [zipD, List.length_cons, zipD_length]; simp
theorem rep_pair {w : Wd} (g : Good w) {T : Addr} (hT : w.H T = none) {x y : D} {u v : V} (hx : Rep Γ w.R w.F x u) (hy : Rep Γ w.R w.F y v) : Rep Γ w.R (upd w.F T (.tup [u, v])) (.tup [x, y]) (.ref T) := by
  rw [Rep]
  refine ⟨T, _, rfl, upd_same, ?_⟩
  rw [RepL]
  refine ⟨_, _, rfl, rep_up (updF_up (g.none_of hT).1) hx, ?_⟩
  rw [RepL]
  exact ⟨_, _, rfl, rep_up (updF_up (g.none_of hT).1) hy, by rw [RepL]⟩
theorem walk_zip {K : PySem.W.Frag} {ds es : List D} {a b : Addr} {ys zs : List V} : Walk Γ (Itz K a b) (zipD ds es) (fun w => SqL K w.F a ys ∧ RepL Γ w.R w.F ds ys ∧ SqL K w.F b zs ∧ RepL Γ w.R w.F es zs) where
  up := fun w w' h x => ⟨SqL.up x.f h.1, repL_up x h.2.1, SqL.up x.f h.2.2.1, repL_up x h.2.2.2⟩
  go := fun i w d h g e => by iterate
    obtain ⟨x, y, e1, e2, e3⟩ := zipD_get _ _ _ _ e
    obtain ⟨u, h1, h2⟩ := h.2.1.get e1
    obtain ⟨v, h3, h4⟩ := h.2.2.2.get e2
    refine ⟨⟨ys, zs, u, v, SqL.up g.sub h.1, SqL.up g.sub h.2.2.1, h1, h3⟩, fun x0 H' ⟨T, x', y', e4, hT, e5, e6, e7⟩ => ?_⟩
    have z := e6 ys (SqL.up g.sub h.1)
    rw [h1] at z; cases z
    have z := e7 zs (SqL.up g.sub h.2.2.1)
    rw [h3] at z; cases z
    subst e4 e5 e3
    exact ⟨{ w with F := upd w.F T (.tup [u, v]), H := upd w.H T (.tup [u, v]) }, rfl, .newF g hT, rfl, rfl, rfl, .newF g hT, rep_pair g hT h2 h4⟩
  stop := fun w h g => ⟨ys, zs, SqL.up g.sub h.1, SqL.up g.sub h.2.2.1, by rw [zipD_length, h.2.1.length, h.2.2.2.length]; omega⟩
theorem walk_zipT {K : PySem.W.Frag} {ds es : List D} {a b : Addr} {ys zs : List V} : Walk Γ (RZ.ItzT K a b) (zipD ds es) (fun w => SqT K w.F a ys ∧ RepL Γ w.R w.F ds ys ∧ SqT K w.F b zs ∧ RepL Γ w.R w.F es zs) where
  up := fun w w' h x => ⟨SqT.up x.f h.1, repL_up x h.2.1, SqT.up x.f h.2.2.1, repL_up x h.2.2.2⟩
  go := fun i w d h g e => by iterate
    obtain ⟨x, y, e1, e2, e3⟩ := zipD_get _ _ _ _ e
    obtain ⟨u, h1, h2⟩ := h.2.1.get e1
    obtain ⟨v, h3, h4⟩ := h.2.2.2.get e2
    refine ⟨⟨ys, zs, u, v, SqT.up g.sub h.1, SqT.up g.sub h.2.2.1, h1, h3⟩, fun x0 H' ⟨T, x', y', e4, hT, e5, e6, e7⟩ => ?_⟩
    have z := e6 ys (SqT.up g.sub h.1)
    rw [h1] at z; cases z
    have z := e7 zs (SqT.up g.sub h.2.2.1)
    rw [h3] at z; cases z
    subst e4 e5 e3
    exact ⟨{ w with F := upd w.F T (.tup [u, v]), H := upd w.H T (.tup [u, v]) }, rfl, .newF g hT, rfl, rfl, rfl, .newF g hT, rep_pair g hT h2 h4⟩
  stop := fun w h g => ⟨ys, zs, SqT.up g.sub h.1, SqT.up g.sub h.2.2.1, by rw [zipD_length, h.2.1.length, h.2.2.2.length]; omega⟩
end
section
variable {X : Cx} {Γ : Gm} {W : WX} {tg e : Expr} {c : M Rv} {cs : M (List D)}
theorem cD_ok {Γ : Gm} {W : WX} {c : M Rv} {w : Wd} {σ : L2.St} {ρ S ρ1 S1 : List Sl} {d : D} {t : Bool} (q : cD c ρ S = .ok d ρ1 S1 t) {Q1 : VK}
    (k : ∀ w' v, Ext w w' → Rel Γ w' ρ1 S1 σ → Rep Γ w'.R w'.F d v → Q1 v w'.H) : CK Γ W w σ Q1 (c ρ S) := by
  refine CKd.of (Qd := fun _ _ _ => True) (by rw [q]; exact fun _ _ _ _ _ _ => True.intro) fun d' ρ' S' t' w' v x e r o q' => ?_
  rw [q] at q'
  cases q'
  exact k w' v x r o
theorem cD_ex {Γ : Gm} {W : WX} {c : M Rv} {w : Wd} {σ : L2.St} {ρ S ρ1 S1 : List Sl} {y : Exn} (q : cD c ρ S = .ex y ρ1 S1) {Q1 : VK}
    (k : ∀ w' cls d, Ext w w' → Rel Γ w' ρ1 S1 σ → XOk Γ w' y cls d → W cls d σ w'.H) : CK Γ W w σ Q1 (c ρ S) :=
  CKd.of (Qd := fun _ _ _ => True) (by rw [q]; exact k) fun d' ρ' S' t' w' v x e r o q' => by rw [q] at q'; cases q'
theorem pmi_its (hK : Γ.K = X.K) (h : PE X e (tM Γ W c)) : PI X tg e (tI Γ W (cIts c)) :=
  ((pi_list h).or ((pi_tup h).or (pi_str h))).imp fun σ H Q ⟨F, E, C, R, ρ, S, rel, ck⟩ => by iterate
    unfold cIts at ck
    cases q : cD c ρ S with
    | bad => rw [q] at ck; exact ck.elim
    | ex y ρ1 S1 =>
      rw [q] at ck
      exact .inl ⟨F, E, C, R, ρ, S, rel, cD_ex q ck⟩
    | ok d ρ1 S1 t =>
      rw [q, Res.bind_ok] at ck
      have seqL : ∀ xs, (d = .lst xs ∨ d = .kl xs) → CKi Γ W ⟨F, E, C, R, H⟩ σ Q (Res.ok xs ρ1 S1 false) → iList X.K (tM Γ W c) σ H Q := fun xs hd ck =>
        ⟨F, E, C, R, ρ, S, rel, cD_ok q fun w' v x r o => by
          have z : ∃ a ys, v = .ref a ∧ SqL Γ.K w'.F a ys ∧ RepL Γ w'.R w'.F xs ys := by
            rcases hd with hd | hd
            · subst hd; rw [Rep] at o; obtain ⟨a, ys, e1, e2, e3⟩ := o; exact ⟨a, ys, e1, SqL.of e2, e3⟩
            · subst hd; rw [Rep] at o; exact o
          obtain ⟨a, ys, e1, e2, e3⟩ := z
          rw [hK] at e2
          exact ⟨a, e1, ⟨ys, SqL.up r.good.sub e2⟩, ck w' _ _ x r ⟨e2, e3⟩ walk_list⟩⟩
      have seqT : ∀ xs, (d = .tup xs ∨ d = .kt xs) → CKi Γ W ⟨F, E, C, R, H⟩ σ Q (Res.ok xs ρ1 S1 false) → iTup X.K (tM Γ W c) σ H Q := fun xs hd ck =>
        ⟨F, E, C, R, ρ, S, rel, cD_ok q fun w' v x r o => by
          have z : ∃ a ys, v = .ref a ∧ SqT Γ.K w'.F a ys ∧ RepL Γ w'.R w'.F xs ys := by
            rcases hd with hd | hd
            · subst hd; rw [Rep] at o; obtain ⟨a, ys, e1, e2, e3⟩ := o; exact ⟨a, ys, e1, SqT.of e2, e3⟩
            · subst hd; rw [Rep] at o; exact o
          obtain ⟨a, ys, e1, e2, e3⟩ := z
          rw [hK] at e2
          exact ⟨a, e1, ⟨ys, SqT.up r.good.sub e2⟩, ck w' _ _ x r ⟨e2, e3⟩ walk_tup⟩⟩
      cases d with
      | lst xs => exact .inl (seqL xs (.inl rfl) ck)
      | kl xs => exact .inl (seqL xs (.inr rfl) ck)
      | tup xs => exact .inr (.inl (seqT xs (.inl rfl) ck))
      | kt xs => exact .inr (.inl (seqT xs (.inr rfl) ck))
      | str z =>
        refine .inr (.inr ⟨F, E, C, R, ρ, S, rel, cD_ok q fun w' v x r o => ?_⟩)
        rw [Rep] at o
        exact ⟨z, o, ck w' _ _ x r True.intro walk_str⟩
      | _ => exact ck.elim
theorem pmi_rng1 {a : Expr} {p pos : Pos} (hg : Gl X "range") (hm : X.mg "range" = none) (ha : PA X [a] (tMl Γ W cs)) (hs : starEach [a] X.env = [(false, eval a X.env)]) : PI X tg (.Call (.Name "range" p) [a] [] pos) (tI Γ W (cRng1 cs)) :=
  (pi_range1 hg hm ha hs).imp fun σ H Q ⟨F, E, C, R, ρ, S, rel, ck⟩ => ⟨F, E, C, R, ρ, S, rel, CKl.bindI ck fun ds ρ1 S1 w1 vs x1 rel1 o1 ck1 => by
    split at ck1
    · rename_i j
      split at ck1
      · rename_i hj
        rw [RepL] at o1
        obtain ⟨v, vs', e1, r1, l1⟩ := o1
        rw [RepL] at l1
        rw [Rep] at r1
        subst e1 l1 r1
        exact ⟨j, rfl, hj.1, hj.2, ck1 w1 _ _ x1 rel1 True.intro walk_range⟩
      · exact ck1.elim
    · exact ck1.elim⟩
theorem pmi_zip {a b : Expr} {elts : List Expr} {kk : Nat} {tpos p pos : Pos} (hK : Γ.K = X.K) (hg : Gl X "zip") (hm : X.mg "zip" = none) (ha : PA X [a, b] (tMl Γ W cs)) (hs : starEach [a, b] X.env = (false, eval a X.env) :: starEach [b] X.env) (hpl : (backTo pos (starEach [b] X.env)).any (·.1) = false) :
    PI X (.Tuple elts kk tpos) (.Call (.Name "zip" p) [a, b] [] pos) (tI Γ W (cZip cs)) :=
  (RZ.pi_zipA hg hm ha hs hpl).imp fun σ H Q ⟨F, E, C, R, ρ, S, rel, ck⟩ => ⟨F, E, C, R, ρ, S, rel, CKl.bindI ck fun ds ρ1 S1 w1 vs x1 rel1 o1 ck1 => by iterate
    have two : ∀ d e, ds = [d, e] → ∃ u v, vs = [u, v] ∧ Rep Γ w1.R w1.F d u ∧ Rep Γ w1.R w1.F e v := fun d e ed => by
      subst ed
      rw [RepL] at o1
      obtain ⟨v, vs', e1, o, l1⟩ := o1
      rw [RepL] at l1
      obtain ⟨v2, vs2, e2, o2, l2⟩ := l1
      rw [RepL] at l2
      subst e1 e2 l2
      exact ⟨_, _, rfl, o, o2⟩
    have tt : ∀ d xs v, (d = .tup xs ∨ d = .kt xs) → Rep Γ w1.R w1.F d v → ∃ a ys, v = .ref a ∧ SqT X.K w1.F a ys ∧ RepL Γ w1.R w1.F xs ys := fun d xs v hd o => by
      rw [← hK]
      rcases hd with hd | hd
      · subst hd; rw [Rep] at o; obtain ⟨a, ys, e1, e2, e3⟩ := o; exact ⟨a, ys, e1, SqT.of e2, e3⟩
      · subst hd; rw [Rep] at o; exact o
    have finT : ∀ d e xs ys, ds = [d, e] → (d = .tup xs ∨ d = .kt xs) → (e = .tup ys ∨ e = .kt ys) → CKi Γ W ⟨F, E, C, R, H⟩ σ Q (Res.ok (zipD xs ys) ρ1 S1 false) →
        ∃ a b xs ys, vs = [.ref a, .ref b] ∧ ((SqL X.K w1.H a xs ∧ SqL X.K w1.H b ys ∧ Q (Itz X.K a b) w1.H) ∨ (SqT X.K w1.H a xs ∧ SqT X.K w1.H b ys ∧ Q (RZ.ItzT X.K a b) w1.H)) := fun d e xs ys ed hd he ck2 => by
      obtain ⟨u, v, ev, o, o2⟩ := two d e ed
      obtain ⟨a, zs, e1, e2, e3⟩ := tt d xs u hd o
      obtain ⟨b, zs2, e4, e5, e6⟩ := tt e ys v he o2
      subst ev e1 e4
      exact ⟨a, b, zs, zs2, rfl, .inr ⟨SqT.up rel1.good.sub e2, SqT.up rel1.good.sub e5, ck2 w1 _ _ x1 rel1 ⟨e2, e3, e5, e6⟩ walk_zipT⟩⟩
    split at ck1
    · rename_i xs ys
      obtain ⟨u, v, ev, o, o2⟩ := two _ _ rfl
      rw [Rep] at o o2
      obtain ⟨a, zs, e1, e2, e3⟩ := o
      obtain ⟨b, zs2, e4, e5, e6⟩ := o2
      subst ev e1 e4
      exact ⟨a, b, zs, zs2, rfl, .inl ⟨SqL.of (rel1.good.sub _ _ e2), SqL.of (rel1.good.sub _ _ e5), ck1 w1 _ _ x1 rel1 ⟨SqL.of e2, e3, SqL.of e5, e6⟩ walk_zip⟩⟩
    · exact finT _ _ _ _ rfl (.inl rfl) (.inl rfl) ck1
    · exact finT _ _ _ _ rfl (.inl rfl) (.inr rfl) ck1
    · exact finT _ _ _ _ rfl (.inr rfl) (.inl rfl) ck1
    · exact ck1.elim⟩
end
def forM (g : Tgt) (b : M Fl) : List D → M Fl
  | [] => fun ρ S => .ok .nx ρ S false
  | d :: ds => fun ρ S => match bindT g d ρ with
    | none => .bad
    | some ρ1 => match b ρ1 S with
      | .ok .nx ρ2 S2 _ => forM g b ds ρ2 S2
      | .ok .ct ρ2 S2 _ => forM g b ds ρ2 S2
      | .ok .bk ρ2 S2 _ => .ok .nx ρ2 S2 false
      | .ok (.rt r) ρ2 S2 _ => .ok (.rt r) ρ2 S2 false
      | .ex x ρ2 S2 => .ex x ρ2 S2
      | .bad => .bad
def cFor (ci : M (List D)) (g : Tgt) (b : M Fl) : M Fl := fun ρ S => match ci ρ S with
  | .ok ds ρ S _ => forM g b ds ρ S
  | .ex x ρ S => .ex x ρ S
  | .bad => .bad
section
variable {X : Cx} {Γ : Gm} {W : WX} {P : List Nat} {tg iter : Expr} {body : List Stmt} {ci : M (List D)} {b : M Fl} {g : Tgt} {t : TG} {pos : Pos}
theorem for_core (ht : TgOk Γ t g) (hP : ∀ j ∈ P, j ∉ g.slots) {D : Ends} {σ : L2.St} {H : Hp} (h : tS Γ W P (cFor ci g b) D σ H) : tFor (tI Γ W ci) t (tS Γ W P b) D σ H := by iterate
  obtain ⟨F, E, C, R, ρ, S, rel, sk⟩ := h
  refine ⟨F, E, C, R, ρ, S, rel, ?_⟩
  unfold cFor at sk
  cases q : ci ρ S with
  | bad => rw [q] at sk; exact sk
  | ex y ρ1 S1 => rw [q] at sk; exact fun w2 cls d x2 R2 o2 => sk w2 σ cls d x2 .refl R2 o2
  | ok ds ρ1 S1 _ =>
    rw [q] at sk
    intro w1 J I x1 rel1 i1 walk
    refine ⟨fun i m σ' H' => m = ds.length - i ∧ i ≤ ds.length ∧ ∃ w ρ S, w.H = H' ∧ Ext ⟨F, E, C, R, H⟩ w ∧ Pin P σ σ' ∧ Rel Γ w ρ S σ' ∧ I w ∧ SK Γ W P ⟨F, E, C, R, H⟩ σ D (forM g b (ds.drop i) ρ S),
      ⟨ds.length, by simp, Nat.zero_le _, w1, ρ1, S1, rfl, x1, .refl, rel1, i1, sk⟩, ?_⟩
    rintro i m σ2 H2 ⟨rfl, hi, w2, ρ2, S2, eH, x2, p2, rel2, i2, sk2⟩
    subst eH
    by_cases hlt : i < ds.length
    · have ed : ds[i]? = some ds[i] := by simp [hlt]
      rw [List.drop_eq_getElem_cons hlt] at sk2
      obtain ⟨go, turn⟩ := walk.go i w2 _ i2 rel2.good ed
      refine .inr ⟨go, fun σ' H' => ∃ w ρ S, w.H = H' ∧ Ext ⟨F, E, C, R, H⟩ w ∧ Pin P σ σ' ∧ Rel Γ w ρ S σ' ∧ I w ∧ SK Γ W P ⟨F, E, C, R, H⟩ σ D (forM g b (ds.drop (i + 1)) ρ S), fun σ' H' z => ⟨ds.length - (i + 1), by omega, rfl, hlt, z⟩, fun x H' y => ?_⟩
      obtain ⟨w3, eH3, x3, eE, eC, eR, g3, r3⟩ := turn x H' y
      subst eH3
      have rel3 := rel2.move x3.gr g3 eE eC eR
      simp only [forM] at sk2
      cases q2 : bindT g ds[i] ρ2 with
      | none => simp only [q2] at sk2; exact sk2.elim
      | some ρ3 =>
        simp only [q2] at sk2
        refine ht w3 ρ2 S2 σ2 _ x ρ3 _ rel3 r3 q2 fun w4 σ4 eH4 x4 eF4 eR4 rel4 same len => ?_
        have p4 : Pin P σ σ4 := p2.trans fun j hj => same j (hP j hj)
        have x04 := (x2.trans x3).trans x4
        have i4 := walk.up _ _ (walk.up _ _ i2 x3.gr) x4.gr
        refine ⟨w4.F, w4.E, w4.C, w4.R, ρ3, S2, rel4, ?_⟩
        cases q3 : b ρ3 S2 with
        | bad => simp only [q3] at sk2; exact sk2
        | ex y ρ5 S5 =>
          simp only [q3] at sk2
          exact fun w5 σ5 cls d x5 p5 r5 o5 => sk2 w5 σ5 cls d (x04.trans x5) (p4.trans p5) r5 o5
        | ok f ρ5 S5 t5 =>
          simp only [q3] at sk2
          cases f with
          | nx => exact fun w5 σ5 x5 p5 rel5 => ⟨w5, ρ5, S5, rfl, x04.trans x5, p4.trans p5, rel5, walk.up _ _ i4 x5.gr, sk2⟩
          | ct => exact fun w5 σ5 x5 p5 rel5 => ⟨w5, ρ5, S5, rfl, x04.trans x5, p4.trans p5, rel5, walk.up _ _ i4 x5.gr, sk2⟩
          | bk => exact fun w5 σ5 x5 p5 r5 => sk2 w5 σ5 (x04.trans x5) (p4.trans p5) r5
          | rt r => exact fun w5 σ5 v x5 p5 r5 o5 => sk2 w5 σ5 v (x04.trans x5) (p4.trans p5) r5 (o5.base x04)
    · have e : i = ds.length := by omega
      subst e
      refine .inl ⟨walk.stop w2 i2 rel2.good, ?_⟩
      rw [List.drop_length] at sk2
      exact sk2 w2 σ2 x2 p2 rel2
theorem pms_for (hp : PassesOwn (model X.prog X.w) X.A X.env X.xe) (hc : X.calm = true) (hi : PI X tg iter (tI Γ W ci)) (hg : PG X tg t) (ht : TgOk Γ t g) (hP : ∀ j ∈ P, j ∉ g.slots) (hb : PSs X body (tS Γ W P b)) (hs : ∀ x, foldedSetIterable iter X.env x = pure x) :
    PS X (.For tg iter body [] pos) (tS Γ W P (cFor ci g b)) := (ps_for hp hc hi hg hb hs).imp fun _ _ _ h => for_core ht hP h
end
end DV
namespace DV
open PySem PySem.Spec PyProof.Rows L2
def wipeS (ρ : List Sl) : List Nat → List Sl
  | [] => ρ
  | v :: vs => (wipeS ρ vs).set v .emp
section
variable {Γ : Gm} {W : WX} {w w0 w1 : Wd} {σ : L2.St} {ρ S : List Sl}
theorem Rel.clear (i : Nat) (h : Rel Γ w ρ S σ) : ∃ w2, w2.H = w.H ∧ Ext w w2 ∧ Rel Γ w2 (ρ.set i .emp) S (σ.set i none) ∧ w2.F = w.F ∧ w2.R = w.R := by iterate
  by_cases hi : i < ρ.length
  · obtain ⟨s, hs⟩ : ∃ s, ρ[i]? = some s := ⟨ρ[i], by simp [hi]⟩
    obtain ⟨o2, A, B, b2, h1, h2, h3, h4⟩ := h.own.env_at hs
    have g := h.good
    have eAd : w.ad = A.map (·.1) ++ b2.map (·.1) ++ (B ++ w.C).map (·.1) := by show (w.E ++ w.C).map _ = _; rw [h2]; simp
    have nd := g.nd
    rw [eAd] at nd
    obtain ⟨q1, q2, q3⟩ := List.nodup_append.mp nd
    obtain ⟨q4, q5, q6⟩ := List.nodup_append.mp q1
    have mem : ∀ p, p ∈ A ++ B ++ w.C → p ∈ w.E ++ w.C := fun p hp => by
      rw [h2]
      simp only [List.mem_append] at hp ⊢
      rcases hp with (z | z) | z <;> simp [z]
    refine ⟨{ w with E := A ++ B }, rfl, ⟨.refl, fun _ _ h _ => h, fun a z => ?_, fun _ _ h => .inl h, fun _ o h => ⟨o, h⟩⟩, ⟨⟨g.sub, fun p hp => g.cell p (mem p hp), ?_⟩, ?_⟩, rfl, rfl⟩
    · obtain ⟨p, hp, rfl⟩ := List.mem_map.mp z
      exact .inl (List.mem_map_of_mem (mem p hp))
    · show ((A ++ B ++ w.C).map (·.1)).Nodup
      rw [List.append_assoc, List.map_append]
      exact List.nodup_append.mpr ⟨q4, q2, fun a ha c hc => q3 a (List.mem_append_left _ ha) c hc⟩
    · have z := h4 w.F (fun _ _ h => h) .emp none [] rfl
      simpa using z
  · have e1 : ρ.set i .emp = ρ := List.set_eq_of_length_le (by omega)
    have e2 : σ.set i none = σ := List.set_eq_of_length_le (by rw [← h.own.1.length]; omega)
    rw [e1, e2]
    exact ⟨w, rfl, .refl w, h, rfl, rfl⟩
theorem Rel.wipe (h : Rel Γ w ρ S σ) : ∀ vs : List Nat, ∃ w2, w2.H = w.H ∧ Ext w w2 ∧ Rel Γ w2 (wipeS ρ vs) S (L2.wipe σ vs) ∧ w2.F = w.F ∧ w2.R = w.R
  | [] => ⟨w, rfl, .refl w, h, rfl, rfl⟩
  | v :: vs => by
    obtain ⟨w2, a, b, c, d, e⟩ := h.wipe vs
    obtain ⟨w3, a', b', c', d', e'⟩ := c.clear v
    exact ⟨w3, a'.trans a, b.trans b', c', d'.trans d, e'.trans e⟩
theorem wipeS_emp (ρ : List Sl) : ∀ (vs : List Nat) (v : Nat), v ∈ vs → ∀ s, (wipeS ρ vs)[v]? = some s → s = .emp
  | v :: vs, u, hu, s, e => by
    rw [wipeS] at e
    by_cases z : v = u
    · subst z
      have hl : v < (wipeS ρ vs).length := by
        have := (List.getElem?_eq_some_iff.mp e).1
        rwa [List.length_set] at this
      rw [List.getElem?_set_self hl] at e
      cases e; rfl
    · rw [List.getElem?_set_ne z] at e
      rcases List.mem_cons.mp hu with y | y
      · exact absurd y.symm z
      · exact wipeS_emp ρ vs u y s e
theorem wipe_get {σ : L2.St} : ∀ {vs : List Nat} {j : Nat}, j ∉ vs → (L2.wipe σ vs)[j]? = σ[j]?
  | [], j, h => rfl
  | v :: vs, j, h => by
    simp only [List.mem_cons, not_or] at h
    unfold L2.wipe
    rw [List.getElem?_set_ne (Ne.symm h.1), wipe_get h.2]
theorem wipe_at {σ : L2.St} : ∀ {vs : List Nat} {j : Nat}, j ∈ vs → j < σ.length → (L2.wipe σ vs)[j]? = some none
  | v :: vs, j, h, hl => by
    unfold L2.wipe
    by_cases z : v = j
    · subst z
      rw [List.getElem?_set_self (by rw [wipe_length]; exact hl)]
    · rw [List.getElem?_set_ne z]
      rcases List.mem_cons.mp h with y | y
      · exact absurd y.symm z
      · exact wipe_at y hl
theorem wipe_eq {σ σ' : L2.St} {vs : List Nat} (hl : σ'.length = σ.length) (h : ∀ j, j ∉ vs → σ'[j]? = σ[j]?) : L2.wipe σ' vs = L2.wipe σ vs := by
  apply List.ext_getElem?
  intro j
  by_cases z : j ∈ vs
  · by_cases hj : j < σ.length
    · rw [wipe_at z hj, wipe_at z (by rw [hl]; exact hj)]
    · rw [List.getElem?_eq_none (by rw [wipe_length]; omega), List.getElem?_eq_none (by rw [wipe_length]; omega)]
  · rw [wipe_get z, wipe_get z, h j z]
/-- of a slot that holds nothing nothing is asked -/
theorem OwnE.unwipe {R : List Addr} {F : Hp} : ∀ {ρ : List Sl} {σ σ' : L2.St} {C : Cells}, OwnE Γ R F ρ σ' C → σ.length = σ'.length → (∀ (i : Nat) (s : Sl), ρ[i]? = some s → s ≠ .emp → σ[i]? = σ'[i]?) → OwnE Γ R F ρ σ C
  | [], σ, σ', C, h, hl, k => by
    obtain ⟨rfl, rfl⟩ := h
    exact ⟨List.length_eq_zero_iff.mp hl, rfl⟩
  | s :: ρ, σ, σ', C, h, hl, k => by
    obtain ⟨o, r, c1, c2, e, q, l, e2⟩ := h
    subst e e2
    cases σ with
    | nil => cases hl
    | cons o1 σ =>
      refine ⟨o1, σ, c1, c2, rfl, ?_, l.unwipe (by simpa using hl) (fun i s hs n => by simpa using k (i + 1) s (by simpa using hs) n), rfl⟩
      by_cases z : s = .emp
      · subst z; exact q
      · have := k 0 s rfl z
        simp at this
        subst this
        exact q
theorem Rel.unwipe {vs : List Nat} (h : Rel Γ w (wipeS ρ vs) S (L2.wipe σ vs)) : Rel Γ w (wipeS ρ vs) S σ :=
  ⟨h.good, h.own.1.unwipe (by rw [wipe_length]) (fun i s hs n => by
    by_cases z : i ∈ vs
    · exact absurd (wipeS_emp ρ vs i z s hs) n
    · rw [wipe_get z]), h.own.2⟩
/-- an object that nobody else knows stands at D -/
structure Hid (D : Addr) (o : HO) (w : Wd) : Prop where
  h : w.H D = some o
  f : w.F D = none
  n : D ∉ w.ad
theorem Hid.up {D : Addr} {o : HO} (h : Hid D o w) (nt : ∀ ps, o ≠ .tbl ps) (x : Ext w w1) (nt2 : ∀ ps, o ≠ .tup ps := by intro ps; exact nofun) : Hid D o w1 := by
  refine ⟨x.keep _ _ h.h h.n, ?_, fun z => ?_⟩
  · cases q : w1.F D with
    | none => rfl
    | some u =>
      rcases x.fnew _ _ q with z | z | z | ⟨xs, z⟩
      · rw [h.f] at z; cases z
      · rw [h.h] at z; cases z
      · exact absurd z h.n
      · rw [h.h] at z; exact absurd (Option.some.inj z) (nt2 xs)
  · rcases x.cnew _ z with y | y
    · exact h.n y
    · rw [h.h] at y; cases y
theorem Hid.put {D : Addr} {o o' : HO} (h : Hid D o w) (x : Ext w0 w) (n0 : w0.H D = none) (r : Rel Γ w ρ S σ) : Ext w0 { w with H := upd w.H D o' } ∧ Rel Γ { w with H := upd w.H D o' } ρ S σ ∧ Hid D o' { w with H := upd w.H D o' } := by iterate
  have ne : ∀ {a : Addr} {u : HO}, w0.H a = some u → a ≠ D := fun {a u} e z => by subst z; rw [n0] at e; cases e
  have g := r.good
  refine ⟨⟨x.gr, fun a u e ha => ?_, x.cnew, x.fnew, fun a u e => ?_⟩, ⟨⟨fun a u e => ?_, fun p hp => ⟨?_, (g.cell p hp).2⟩, g.nd⟩, r.own⟩, upd_same, h.f, h.n⟩
  · show upd w.H D o' a = some u
    rw [upd_ne (ne e)]
    exact x.keep a u e ha
  · obtain ⟨u', q⟩ := x.live a u e
    exact ⟨u', by show upd w.H D o' a = _; rw [upd_ne (ne e)]; exact q⟩
  · show upd w.H D o' a = some u
    rw [upd_ne]
    · exact g.sub a u e
    · intro z; subst z; rw [h.f] at e; cases e
  · show upd w.H D o' p.1 = some p.2
    rw [upd_ne]
    · exact (g.cell p hp).1
    · intro z; exact h.n (z ▸ List.mem_map_of_mem hp)
end
abbrev W0 : WX := fun _ _ _ _ => False
def compM (vs : List Nat) (g : Tgt) (t : M Bool) (c : M Rv) : List D → List D → M (List D)
  | [], acc => fun ρ S => .ok acc ρ S false
  | d :: ds, acc => fun ρ S => match bindT g d ρ with
    | none => .bad
    | some ρ1 => match t ρ1 S with
      | .ok true ρ2 S2 _ => (match cD c ρ2 S2 with
        | .ok d' ρ3 S3 _ => if acc.length < sizeLine then compM vs g t c ds (acc ++ [d']) (wipeS ρ3 vs) S3 else .bad
        | _ => .bad)
      | .ok false ρ2 S2 _ => compM vs g t c ds acc (wipeS ρ2 vs) S2
      | _ => .bad
def cLc (ci : M (List D)) (vs : List Nat) (g : Tgt) (t : M Bool) (c : M Rv) : M Rv := fun ρ S => match ci ρ S with
  | .ok ds ρ1 S1 _ => (match compM vs g t c ds [] (wipeS ρ1 vs) S1 with
    | .ok acc ρ2 S2 _ => .ok (.fr (.lst acc)) ρ2 S2 true
    | _ => .bad)
  | .ex x ρ1 S1 => .ex x ρ1 S1
  | .bad => .bad
def cYes : M Bool := fun ρ S => .ok true ρ S false
section
variable {X : Cx} {Γ : Gm} {W : WX} {P : List Nat} {elt tg iter : Expr} {ci : M (List D)} {vs : List Nat} {g : Tgt} {tt : M Bool} {c : M Rv} {t : TG} {pos : Pos}
theorem lc_core' (ht : TgOk Γ t g) (hv : ∀ j ∈ g.slots, j ∈ vs) {σ : L2.St} {H : Hp} {Q : VK} (h : tM Γ W (cLc ci vs g tt c) σ H Q) : tLc (tI Γ W ci) t (tMb Γ W0 tt) (tM Γ W0 c) vs σ H Q := by iterate
  obtain ⟨F, E, C, R, ρ, S, rel, ck⟩ := h
  refine ⟨F, E, C, R, ρ, S, rel, ?_⟩
  unfold cLc at ck
  cases q : ci ρ S with
  | bad => rw [q] at ck; exact ck
  | ex y ρ1 S1 => rw [q] at ck; exact ck
  | ok ds ρ1 S1 _ =>
    simp only [q] at ck
    intro w1 J I x1 rel1 i1 walk Dd hD
    have n0 : H Dd = none := x1.none_of hD
    obtain ⟨w2, eH2, x2, rel2, _, _⟩ := rel1.wipe vs
    refine ⟨fun i m H' => m = ds.length - i ∧ i ≤ ds.length ∧ ∃ w ρ S accD acc, w.H = H' ∧ Ext ⟨F, E, C, R, H⟩ w ∧ Rel Γ w (wipeS ρ vs) S (L2.wipe σ vs) ∧ I w ∧ Hid Dd (.lst acc) w ∧ RepL Γ w.R w.F accD acc ∧
        CK Γ W ⟨F, E, C, R, H⟩ σ Q (match compM vs g tt c (ds.drop i) accD (wipeS ρ vs) S with | .ok acc ρ2 S2 _ => .ok (.fr (.lst acc)) ρ2 S2 true | _ => .bad),
      ⟨ds.length, by simp, Nat.zero_le _, ?_⟩, ?_⟩
    · have hD2 : w2.H Dd = none := by rw [eH2]; exact hD
      obtain ⟨f1, f2⟩ := rel2.good.none_of hD2
      refine ⟨{ w2 with H := upd w2.H Dd (.lst []) }, ρ1, S1, [], [], by rw [eH2], (x1.trans x2).trans (.new rel2.good hD2), rel2.move .refl (.new rel2.good hD2) rfl rfl rfl, ?_, ⟨upd_same, f1, f2⟩, by rw [RepL], ck⟩
      exact walk.up _ _ (walk.up _ _ i1 x2.gr) .refl
    · rintro i m H2 ⟨rfl, hi, w3, ρ3, S3, accD, acc, eH, x3, rel3, i3, hid, racc, ck3⟩
      subst eH
      by_cases hlt : i < ds.length
      · have ed : ds[i]? = some ds[i] := by simp [hlt]
        rw [List.drop_eq_getElem_cons hlt] at ck3
        obtain ⟨go, turn⟩ := walk.go i w3 _ i3 rel3.good ed
        refine .inr ⟨go, fun H' => ∃ w ρ S accD acc, w.H = H' ∧ Ext ⟨F, E, C, R, H⟩ w ∧ Rel Γ w (wipeS ρ vs) S (L2.wipe σ vs) ∧ I w ∧ Hid Dd (.lst acc) w ∧ RepL Γ w.R w.F accD acc ∧
          CK Γ W ⟨F, E, C, R, H⟩ σ Q (match compM vs g tt c (ds.drop (i + 1)) accD (wipeS ρ vs) S with | .ok acc ρ2 S2 _ => .ok (.fr (.lst acc)) ρ2 S2 true | _ => .bad),
          fun H' z => ⟨ds.length - (i + 1), by omega, rfl, hlt, z⟩, fun x H' y => ?_⟩
        obtain ⟨w4, eH4, x4, eE, eC, eR, g4, r4⟩ := turn x H' y
        subst eH4
        have rel4 := rel3.move x4.gr g4 eE eC eR
        simp only [compM] at ck3
        cases q2 : bindT g ds[i] (wipeS ρ3 vs) with
        | none => simp only [q2] at ck3; exact ck3.elim
        | some ρ5 =>
          simp only [q2] at ck3
          refine ht w4 _ S3 _ _ x ρ5 _ rel4 r4 q2 fun w5 σ5 eH5 x5 eF5 eR5 rel5 same len => ⟨?_, ?_⟩
          · rw [wipe_eq (σ := L2.wipe σ vs) len fun j hj => same j fun z => hj (hv j z)]
            exact wipe_eq (by rw [wipe_length]) fun j hj => wipe_get hj
          · have ew : L2.wipe σ5 vs = L2.wipe σ vs := by
              rw [wipe_eq (σ := L2.wipe σ vs) len fun j hj => same j fun z => hj (hv j z)]
              exact wipe_eq (by rw [wipe_length]) fun j hj => wipe_get hj
            have x05 := (x3.trans x4).trans x5
            have i5 := walk.up _ _ (walk.up _ _ i3 x4.gr) x5.gr
            have hid5 := (hid.up (fun _ z => nomatch z) x4).up (fun _ z => nomatch z) x5
            have racc5 := repL_up x5.gr (repL_up x4.gr racc)
            refine ⟨w5.F, w5.E, w5.C, w5.R, ρ5, S3, rel5, ?_⟩
            cases q3 : tt ρ5 S3 with
            | bad => simp only [q3] at ck3; exact ck3
            | ex y ρ6 S6 => simp only [q3] at ck3; exact ck3.elim
            | ok k ρ6 S6 t6 =>
              intro w6 x6 _ rel6
              have x06 := x05.trans x6
              have i6 := walk.up _ _ i5 x6.gr
              have hid6 := hid5.up (fun _ z => nomatch z) x6
              have racc6 := repL_up x6.gr racc5
              cases k with
              | false =>
                simp only [q3] at ck3
                rw [if_neg Bool.false_ne_true]
                obtain ⟨w7, eH7, x7, rel7, _, _⟩ := rel6.wipe vs
                rw [ew] at rel7
                exact ⟨w7, ρ6, S6, accD, acc, eH7, x06.trans x7, rel7, walk.up _ _ i6 x7.gr, hid6.up (fun _ z => nomatch z) x7, repL_up x7.gr racc6, ck3⟩
              | true =>
                simp only [q3] at ck3
                rw [if_pos rfl]
                refine ⟨w6.F, w6.E, w6.C, w6.R, ρ6, S6, rel6, ?_⟩
                cases q4 : cD c ρ6 S6 with
                | bad => simp only [q4] at ck3; exact ck3.elim
                | ex y ρ7 S7 => simp only [q4] at ck3; exact ck3.elim
                | ok d7 ρ7 S7 t7 =>
                  simp only [q4] at ck3
                  refine cD_ok q4 fun w7 v x7 rel7 r7 => ?_
                  have hid7 := hid6.up (fun _ z => nomatch z) x7
                  have racc7 := repL_up x7.gr racc6
                  by_cases hl : accD.length < sizeLine
                  · simp only [if_pos hl] at ck3
                    refine ⟨acc, hid7.h, by rw [← racc7.length]; exact hl, ?_⟩
                    obtain ⟨x8, rel8, hid8⟩ := hid7.put (o' := .lst (acc ++ [v])) (x06.trans x7) n0 rel7
                    obtain ⟨w9, eH9, x9, rel9, _, _⟩ := rel8.wipe vs
                    rw [ew] at rel9
                    exact ⟨w9, ρ7, S7, accD ++ [d7], acc ++ [v], eH9, x8.trans x9, rel9, walk.up w7 w9 (walk.up _ _ i6 x7.gr) x9.gr, hid8.up (fun _ z => nomatch z) x9,
                      (racc7.app (ys := [d7]) (ys' := [v]) (by rw [RepL]; exact ⟨v, [], rfl, r7, by rw [RepL]⟩)).up x9.gr, ck3⟩
                  · simp only [if_neg hl] at ck3
                    exact ck3.elim
      · have e : i = ds.length := by omega
        subst e
        refine .inl ⟨walk.stop w3 i3 rel3.good, ?_⟩
        rw [List.drop_length] at ck3
        simp only [compM] at ck3
        refine ck3 w3 (.ref Dd) x3 (fun z => nomatch z) rel3.unwipe ⟨[(Dd, .lst acc)], ?_, ⟨fun p hp => ?_, by simp⟩, fun p hp => ?_⟩
        · rw [Own]; exact ⟨Dd, acc, rfl, racc, rfl⟩
        · have e : p = (Dd, .lst acc) := by simpa using hp
          subst e
          exact ⟨hid.h, hid.f, hid.n⟩
        · have e : p = (Dd, .lst acc) := by simpa using hp
          subst e
          exact .inl n0
theorem pms_yes {X : Cx} : PTs X [] (tMb Γ W0 cYes) := ⟨fun pins s σ H Q I ⟨F, E, C, R, ρ, S, rel, ck⟩ => pts_nil.run pins s σ H Q I (ck ⟨F, E, C, R, H⟩ (.refl _) (fun _ => rfl) rel)⟩
section
variable {scope : Scope} {own : List (Str × Nat)} {ifs : List Expr}
theorem pm_lc (hc : X.calm = true) (hN : X.N.Nodup) (hi : PI X tg iter (tI Γ W ci)) (ok : BlkOk X.N X.env.scope scope own) (ht : TgOk Γ t g) (hv : ∀ j ∈ g.slots, j ∈ own.map (·.2))
    (hg : ∀ (s : Shared) (H : Hp) (C : Addr) (cl : List (Str × Addr)) (fp : List Addr), PG (X.blk s H scope (compEnvC scope cl C X.env) fp) tg t) (hts : ∀ (s : Shared) (H : Hp) (C : Addr) (cl : List (Str × Addr)) (fp : List Addr), PTs (X.blk s H scope (compEnvC scope cl C X.env) fp) ifs (tMb Γ W0 tt))
    (he : ∀ (s : Shared) (H : Hp) (C : Addr) (cl : List (Str × Addr)) (fp : List Addr), PE (X.blk s H scope (compEnvC scope cl C X.env) fp) elt (tM Γ W0 c)) (hs : ∀ x, foldedSetIterable iter X.env x = pure x) :
    PE X (.ListComp elt [⟨tg, iter, ifs, 0⟩] scope pos) (tM Γ W (cLc ci (own.map (·.2)) g tt c)) :=
  (pe_lc hc hN hi ok hg hts he hs).imp fun _ _ _ h => lc_core' ht hv h
theorem pms_setLc {y : Str} {i : Nat} {own' : Bool} {spos py : Pos} (hc : X.calm = true) (hN : X.N.Nodup) (hy : X.N[i]? = some y) (hyl : X.env.scope.names.lookup y = some .local) (hp : i ∉ P)
    (hsw : swapsWith (.ListComp elt [⟨tg, iter, ifs, 0⟩] scope pos) (some (.Name y py)) spos.line X.env = pure true) (hi : PI X tg iter (tI Γ W ci)) (ok : BlkOk X.N X.env.scope scope own) (ht : TgOk Γ t g) (hv : ∀ j ∈ g.slots, j ∈ own.map (·.2))
    (hg : ∀ (s : Shared) (H : Hp) (C : Addr) (cl : List (Str × Addr)) (fp : List Addr), PG (X.blk s H scope (compEnvC scope cl C X.env) fp) tg t) (hts : ∀ (s : Shared) (H : Hp) (C : Addr) (cl : List (Str × Addr)) (fp : List Addr), PTs (X.blk s H scope (compEnvC scope cl C X.env) fp) ifs (tMb Γ W0 tt))
    (he : ∀ (s : Shared) (H : Hp) (C : Addr) (cl : List (Str × Addr)) (fp : List Addr), PE (X.blk s H scope (compEnvC scope cl C X.env) fp) elt (tM Γ W0 c)) (hs : ∀ x, foldedSetIterable iter X.env x = pure x) :
    PS X (.Assign [.Name y py] (.ListComp elt [⟨tg, iter, ifs, 0⟩] scope pos) spos) (tS Γ W P (cSet own' i (cLc ci (own.map (·.2)) g tt c))) :=
  (ps_setLc hc hN hy hyl hsw hi ok hg hts he hs).imp fun D σ H ⟨F, E, C, R, ρ, S, rel, sk⟩ => lc_core' (W := W) ht hv ⟨F, E, C, R, ρ, S, rel, CK.bindS sk fun r ρ1 S1 w1 v x1 rel1 o1 sk1 => setS_ok hp x1 rel1 o1 sk1⟩
end
end
end DV
namespace DV
open PySem PySem.Spec PyProof.Rows L2
def Sl.one : Sl → Bool
  | .lst _ => true
  | .dK _ => true
  | .dT _ => true
  | _ => false
def Sl.one? (s : Sl) : Option Sl := if s.one then some s else none
def getP (r : Rv) (ρ S : List Sl) : Option Sl := match r with
  | .env i => (ρ[i]?).bind Sl.one?
  | .d (.ob j) => (S[j]?).bind Sl.one?
  | _ => none
def putP (r : Rv) (s : Sl) (ρ S : List Sl) : List Sl × List Sl := match r with
  | .env i => (ρ.set i s, S)
  | .d (.ob j) => (ρ, S.set j s)
  | _ => (ρ, S)
def Rv.isEnv : Rv → Bool
  | .env _ => true
  | _ => false
section
variable {Γ : Gm} {W : WX} {w w0 w1 : Wd} {σ : L2.St} {ρ S : List Sl}
theorem one_of {s s' : Sl} (h : s.one? = some s') : s' = s ∧ s.one = true := by
  unfold Sl.one? at h
  split at h
  · cases h; exact ⟨rfl, by assumption⟩
  · cases h
theorem Own.one_of {R : List Addr} {F : Hp} {s : Sl} {v : V} {c : Cells} (e : s.one = true) (h : Own Γ R F s v c) : ∃ a o, v = .ref a ∧ c = [(a, o)] := by
  cases s with
  | lst xs => rw [Own] at h; obtain ⟨a, ys, e1, _, e2⟩ := h; exact ⟨a, _, e1, e2⟩
  | dK xs => rw [Own] at h; obtain ⟨a, ys, e1, _, e2⟩ := h; exact ⟨a, _, e1, e2⟩
  | dT xs => rw [Own] at h; obtain ⟨a, ys, e1, _, e2⟩ := h; exact ⟨a, _, e1, e2⟩
  | _ => cases e
/-- one cell is written -/
theorem Good.put {A B E' C' : Cells} {a : Addr} {ob o' : HO} (g : Good w) (e : w.E ++ w.C = A ++ [(a, ob)] ++ B) (e' : E' ++ C' = A ++ [(a, o')] ++ B) :
    Good ⟨w.F, E', C', w.R, upd w.H a o'⟩ ∧ Ext w ⟨w.F, E', C', w.R, upd w.H a o'⟩ := by iterate
  have ha := g.cell (a, ob) (by rw [e]; simp)
  have nd := g.nd
  have ead : w.ad = A.map (·.1) ++ [a] ++ B.map (·.1) := by show (w.E ++ w.C).map _ = _; rw [e]; simp
  have ead' : (E' ++ C').map (·.1) = w.ad := by rw [ead, e']; simp
  rw [ead] at nd
  have inA : a ∈ w.ad := by rw [ead]; simp
  have neA : ∀ p, p ∈ A ∨ p ∈ B → p.1 ≠ a := by
    intro p hp z
    obtain ⟨n1, n2, n3⟩ := List.nodup_append.mp nd
    obtain ⟨n4, n5, n6⟩ := List.nodup_append.mp n1
    rcases hp with y | y
    · exact n6 _ (List.mem_map_of_mem y) a (by simp) z
    · exact n3 a (by simp) _ (List.mem_map_of_mem y) z.symm
  refine ⟨⟨fun b u h => ?_, fun p hp => ?_, ?_⟩, ⟨.refl, fun b u h n => ?_, fun b z => .inl ?_, fun _ _ h => .inl h, fun b u h => ?_⟩⟩
  · have ne : b ≠ a := fun z => by subst z; rw [show w.F b = none from ha.2] at h; cases h
    show upd w.H a o' b = some u
    rw [upd_ne ne]
    exact g.sub _ _ h
  · have hp : p ∈ A ++ [(a, o')] ++ B := by rw [← e']; exact hp
    simp only [List.mem_append, List.mem_singleton] at hp
    have other : p ∈ A ∨ p ∈ B → upd w.H a o' p.1 = some p.2 ∧ w.F p.1 = none := fun h => by
      rw [upd_ne (neA p h)]
      exact g.cell p (by rw [e]; simp only [List.mem_append]; rcases h with h | h <;> simp [h])
    rcases hp with (hp | hp) | hp
    · exact other (.inl hp)
    · subst hp
      exact ⟨upd_same, ha.2⟩
    · exact other (.inr hp)
  · show ((E' ++ C').map (·.1)).Nodup
    rw [ead']
    exact g.nd
  · show upd w.H a o' b = some u
    rw [upd_ne (fun z => n (by rw [z]; exact inA))]
    exact h
  · have z : b ∈ (E' ++ C').map (·.1) := z
    rw [ead'] at z
    exact z
  · by_cases z : b = a
    · subst z; exact ⟨o', upd_same⟩
    · exact ⟨u, by show upd w.H a o' b = _; rw [upd_ne z]; exact h⟩
theorem Rel.place {r : Rv} {v : V} {s : Sl} (h : Rel Γ w ρ S σ) (o : RvOk Γ w0 w σ r v) (e : getP r ρ S = some s) : ∃ a ob, v = .ref a ∧ w.H a = some ob ∧ Own Γ w.R w.F s v [(a, ob)] ∧
    ∀ s' o', Own Γ w.R w.F s' v [(a, o')] → ∃ w', w'.H = upd w.H a o' ∧ Ext w w' ∧ (r.isEnv = false → w'.E = w.E) ∧ Rel Γ w' (putP r s' ρ S).1 (putP r s' ρ S).2 σ ∧ w'.R = w.R ∧ w'.F = w.F := by iterate
  cases r with
  | env i =>
    have e : (ρ[i]?).bind Sl.one? = some s := e
    have o : σ[i]? = some (some v) := o
    cases q : ρ[i]? with
    | none => rw [q] at e; cases e
    | some s1 =>
      rw [q] at e
      obtain ⟨e1, e2⟩ := DV.one_of e
      subst e1
      obtain ⟨o1, A, B, b, h1, h2, h3, h4⟩ := h.own.env_at q
      rw [o] at h1; cases h1
      obtain ⟨v', ev, ow⟩ := OwnO.of_ne h3 (fun z => by subst z; cases e2)
      cases ev
      obtain ⟨a, ob, e3, e4⟩ := Own.one_of e2 ow
      subst e4
      refine ⟨a, ob, e3, (h.good.cell (a, ob) (by rw [h2]; simp)).1, ow, fun s' o' ow' => ?_⟩
      obtain ⟨g', x'⟩ := h.good.put (a := a) (ob := ob) (o' := o') (A := A) (B := B ++ w.C) (E' := A ++ [(a, o')] ++ B) (C' := w.C) (by rw [h2]; simp) (by simp)
      refine ⟨_, rfl, x', fun z => absurd (show true = false from z) (by decide), ⟨g', ?_⟩, rfl, rfl⟩
      have z := h4 w.F (fun _ _ h => h) s' (some v) _ (.mk ow')
      rw [set_same o] at z
      exact z
  | d x =>
    cases x with
    | ob j =>
      have e : (S[j]?).bind Sl.one? = some s := e
      have o : Rep Γ w.R w.F (.ob j) v := o
      cases q : S[j]? with
      | none => rw [q] at e; cases e
      | some s1 =>
        rw [q] at e
        obtain ⟨e1, e2⟩ := DV.one_of e
        subst e1
        obtain ⟨a', A, B, b, h1, h2, h3, h4⟩ := h.own.sto_at q
        rw [Rep] at o
        obtain ⟨a, e5, e6⟩ := o
        rw [h1] at e5; cases e5
        subst e6
        obtain ⟨v', ev, ow⟩ := OwnO.of_ne h3 (fun z => by subst z; cases e2)
        cases ev
        obtain ⟨a, ob, e3, e4⟩ := Own.one_of e2 ow
        cases e3
        subst e4
        refine ⟨a', ob, rfl, (h.good.cell (a', ob) (by rw [h2]; simp)).1, ow, fun s' o' ow' => ?_⟩
        obtain ⟨g', x'⟩ := h.good.put (a := a') (ob := ob) (o' := o') (A := w.E ++ A) (B := B) (E' := w.E) (C' := A ++ [(a', o')] ++ B) (by rw [h2]; simp) (by simp)
        exact ⟨_, rfl, x', fun _ => rfl, ⟨g', h4 w.F (fun _ _ h => h) s' _ (.mk ow')⟩, rfl, rfl⟩
    | _ => cases e
  | fr _ => cases e
end
def cPut (g : Sl → D → D → Option Sl) (c co ci : M Rv) : M Fl := fun ρ S => (cD c ρ S).bind fun d ρ S => (co ρ S).bind fun ro ρ S => (ci ρ S).bind fun ri ρ S => match getP ro ρ S, cont ρ S ri with
  | some s, some k => (match g s k d with
    | some s' => .ok .nx (putP ro s' ρ S).1 (putP ro s' ρ S).2 false
    | none => .bad)
  | _, _ => .bad
def SetOk (Γ : Gm) (g : Sl → D → D → Option Sl) (t : TSet) : Prop := ∀ (w : Wd) (a : Addr) (ob : HO) (s s' : Sl) (k d : D) (vk vd : V) (Q : Hp → Prop), Good w → w.H a = some ob → Own Γ w.R w.F s (.ref a) [(a, ob)] → Top Γ w k vk → Rep Γ w.R w.F d vd → g s k d = some s' →
  (∀ o', Own Γ w.R w.F s' (.ref a) [(a, o')] → Q (upd w.H a o')) → t (.ref a) vk vd w.H Q
def puk {κ : Type} [DecidableEq κ] (kvs : List (κ × D)) (k : κ) (d : D) : List (κ × D) :=
  if (kvs.any fun kv => decide (kv.1 = k)) = true then kvs.map (fun kv => if kv.1 = k then (kv.1, d) else kv) else kvs ++ [(k, d)]
def stL : Sl → D → D → Option Sl
  | .lst xs, .int k, d => (ixN xs.length k).map fun j => .lst (xs.set j d)
  | _, _, _ => none
def stD : Sl → D → D → Option Sl
  | .dK kvs, k, d => if kvs.length < sizeLine then (keyD k).map fun k => .dK (puk kvs k d) else none
  | .dT kvs, .tup ks, d => if kvs.length < sizeLine then (keysD ks).map fun k => .dT (puk kvs k d) else none
  | _, _, _ => none
def stS : Sl → D → D → Option Sl := fun s k d => (stL s k d).or (stD s k d)
theorem _root_.L2.PSet.or {X : Cx} {t t' : TSet} (h : PSet X t) (h' : PSet X t') : PSet X (fun o i v H Q => t o i v H Q ∨ t' o i v H Q) := fun pins s σ H o i v ov iv u Q I ro ri rv hq => hq.elim (h pins s σ H o i v ov iv u Q I ro ri rv) (h' pins s σ H o i v ov iv u Q I ro ri rv)
section
variable {Γ : Gm} {W : WX} {P : List Nat} {w w0 w1 : Wd} {σ : L2.St} {ρ S : List Sl} {X : Cx}
theorem SetOk.or {g g' : Sl → D → D → Option Sl} {t t' : TSet} (h : SetOk Γ g t) (h' : SetOk Γ g' t') : SetOk Γ (fun s k d => (g s k d).or (g' s k d)) (fun o i v H Q => t o i v H Q ∨ t' o i v H Q) := by
  intro w a ob s s' k d vk vd Q gd ha ow tk rd e q
  cases e1 : g s k d with
  | some z =>
    simp only [e1, Option.or] at e
    cases e
    exact .inl (h w a ob s s' k d vk vd Q gd ha ow tk rd e1 q)
  | none =>
    simp only [e1, Option.or] at e
    exact .inr (h' w a ob s s' k d vk vd Q gd ha ow tk rd e q)
theorem RepL.set {R : List Addr} {F : Hp} {d : D} {v : V} (r : Rep Γ R F d v) : ∀ {xs : List D} {ys : List V} (j : Nat), RepL Γ R F xs ys → RepL Γ R F (xs.set j d) (ys.set j v)
  | [], ys, j, h => by rw [RepL] at h; subst h; simp [RepL]
  | x :: xs, ys, 0, h => by
    rw [RepL] at h
    obtain ⟨y, r', e, q, l⟩ := h
    subst e
    rw [List.set_cons_zero, List.set_cons_zero, RepL]
    exact ⟨v, r', rfl, r, l⟩
  | x :: xs, ys, j + 1, h => by
    rw [RepL] at h
    obtain ⟨y, r', e, q, l⟩ := h
    subst e
    rw [List.set_cons_succ, List.set_cons_succ, RepL]
    exact ⟨y, _, rfl, q, RepL.set r j l⟩
theorem sL : SetOk Γ stL rSetL := by iterate
  intro w a ob s s' k d vk vd Q gd ha ow tk rd e q
  cases s with
  | lst xs =>
    cases k with
    | int k =>
      obtain ⟨j, e1, e2⟩ := Option.map_eq_some_iff.mp e
      subst e2
      rw [Own] at ow
      obtain ⟨a', ys, e3, l, e4⟩ := ow
      cases e3
      cases e4
      refine ⟨a, ys, k, j, rfl, top_int tk, ha, by rw [← l.length]; exact e1, q _ ?_⟩
      rw [Own]
      exact ⟨a, _, rfl, l.set rd j, rfl⟩
    | _ => cases e
  | _ => cases e
theorem RepK.any {R : List Addr} {F : Hp} (k : Key) : ∀ {xs : List (Key × D)} {ys : List (Key × V)}, RepK Γ R F xs ys → (xs.any fun kv => decide (kv.1 = k)) = (ys.any fun kv => decide (kv.1 = k))
  | [], ys, h => by rw [RepK] at h; subst h; rfl
  | (j, x) :: xs, ys, h => by
    rw [RepK] at h
    obtain ⟨y, r, e, q, l⟩ := h
    subst e
    simp only [List.any_cons, RepK.any k l]
theorem RepT.any {R : List Addr} {F : Hp} (k : List Key) : ∀ {xs : List (List Key × D)} {ys : List (List Key × V)}, RepT Γ R F xs ys → (xs.any fun kv => decide (kv.1 = k)) = (ys.any fun kv => decide (kv.1 = k))
  | [], ys, h => by rw [RepT] at h; subst h; rfl
  | (j, x) :: xs, ys, h => by
    rw [RepT] at h
    obtain ⟨y, r, e, q, l⟩ := h
    subst e
    simp only [List.any_cons, RepT.any k l]
theorem RepK.map {R : List Addr} {F : Hp} (k : Key) {d : D} {v : V} (rd : Rep Γ R F d v) : ∀ {xs : List (Key × D)} {ys : List (Key × V)}, RepK Γ R F xs ys → RepK Γ R F (xs.map (fun kv => if kv.1 = k then (kv.1, d) else kv)) (ys.map (fun kv => if kv.1 = k then (kv.1, v) else kv))
  | [], ys, h => by rw [RepK] at h; subst h; simp [RepK]
  | (j, x) :: xs, ys, h => by
    rw [RepK] at h
    obtain ⟨y, r, e, q, l⟩ := h
    subst e
    rw [List.map_cons, List.map_cons]
    by_cases z : j = k
    · simp only [z, if_true, RepK]
      exact ⟨v, _, rfl, rd, RepK.map k rd l⟩
    · simp only [z, if_false, RepK]
      exact ⟨y, _, rfl, q, RepK.map k rd l⟩
theorem RepT.map {R : List Addr} {F : Hp} (k : List Key) {d : D} {v : V} (rd : Rep Γ R F d v) : ∀ {xs : List (List Key × D)} {ys : List (List Key × V)}, RepT Γ R F xs ys → RepT Γ R F (xs.map (fun kv => if kv.1 = k then (kv.1, d) else kv)) (ys.map (fun kv => if kv.1 = k then (kv.1, v) else kv))
  | [], ys, h => by rw [RepT] at h; subst h; simp [RepT]
  | (j, x) :: xs, ys, h => by
    rw [RepT] at h
    obtain ⟨y, r, e, q, l⟩ := h
    subst e
    rw [List.map_cons, List.map_cons]
    by_cases z : j = k
    · simp only [z, if_true, RepT]
      exact ⟨v, _, rfl, rd, RepT.map k rd l⟩
    · simp only [z, if_false, RepT]
      exact ⟨y, _, rfl, q, RepT.map k rd l⟩
theorem RepK.snoc {R : List Addr} {F : Hp} {k : Key} {d : D} {v : V} (rd : Rep Γ R F d v) : ∀ {xs : List (Key × D)} {ys : List (Key × V)}, RepK Γ R F xs ys → RepK Γ R F (xs ++ [(k, d)]) (ys ++ [(k, v)])
  | [], ys, h => by rw [RepK] at h; subst h; show RepK Γ R F [(k, d)] [(k, v)]; rw [RepK]; exact ⟨v, [], rfl, rd, by rw [RepK]⟩
  | (j, x) :: xs, ys, h => by
    rw [RepK] at h
    obtain ⟨y, r, e, q, l⟩ := h
    subst e
    rw [List.cons_append, List.cons_append, RepK]
    exact ⟨y, _, rfl, q, RepK.snoc rd l⟩
theorem RepT.snoc {R : List Addr} {F : Hp} {k : List Key} {d : D} {v : V} (rd : Rep Γ R F d v) : ∀ {xs : List (List Key × D)} {ys : List (List Key × V)}, RepT Γ R F xs ys → RepT Γ R F (xs ++ [(k, d)]) (ys ++ [(k, v)])
  | [], ys, h => by rw [RepT] at h; subst h; show RepT Γ R F [(k, d)] [(k, v)]; rw [RepT]; exact ⟨v, [], rfl, rd, by rw [RepT]⟩
  | (j, x) :: xs, ys, h => by
    rw [RepT] at h
    obtain ⟨y, r, e, q, l⟩ := h
    subst e
    rw [List.cons_append, List.cons_append, RepT]
    exact ⟨y, _, rfl, q, RepT.snoc rd l⟩
theorem RepK.length {R : List Addr} {F : Hp} : ∀ {xs : List (Key × D)} {ys : List (Key × V)}, RepK Γ R F xs ys → xs.length = ys.length
  | [], ys, h => by rw [RepK] at h; subst h; rfl
  | (j, x) :: xs, ys, h => by
    rw [RepK] at h
    obtain ⟨y, r, e, q, l⟩ := h
    subst e
    simp [RepK.length l]
theorem RepT.length {R : List Addr} {F : Hp} : ∀ {xs : List (List Key × D)} {ys : List (List Key × V)}, RepT Γ R F xs ys → xs.length = ys.length
  | [], ys, h => by rw [RepT] at h; subst h; rfl
  | (j, x) :: xs, ys, h => by
    rw [RepT] at h
    obtain ⟨y, r, e, q, l⟩ := h
    subst e
    simp [RepT.length l]
theorem RepK.put {R : List Addr} {F : Hp} {k : Key} {d : D} {v : V} (rd : Rep Γ R F d v) {xs : List (Key × D)} {ys : List (Key × V)} (h : RepK Γ R F xs ys) : RepK Γ R F (puk xs k d) (putK ys k v) := by
  unfold puk putK
  rw [h.any k]
  split
  · exact h.map k rd
  · exact h.snoc rd
theorem RepT.put {R : List Addr} {F : Hp} {k : List Key} {d : D} {v : V} (rd : Rep Γ R F d v) {xs : List (List Key × D)} {ys : List (List Key × V)} (h : RepT Γ R F xs ys) : RepT Γ R F (puk xs k d) (putK ys k v) := by
  unfold puk putK
  rw [h.any k]
  split
  · exact h.map k rd
  · exact h.snoc rd
theorem sD : SetOk Γ stD rSetD := by iterate
  intro w a ob s s' k d vk vd Q gd ha ow tk rd e q
  cases s with
  | dK kvs =>
    simp only [stD] at e
    split at e
    · rename_i hl
      obtain ⟨j, e1, e2⟩ := Option.map_eq_some_iff.mp e
      subst e2
      rw [Own] at ow
      obtain ⟨a', ys, e3, l, e4⟩ := ow
      cases e3
      cases e4
      have rx : Rep Γ w.R w.F k vk := tk.rep_of (by cases k <;> first | exact .inl rfl | (simp [keyD] at e1)) (fun k z => by subst z; simp [keyD] at e1) (fun k z => by subst z; simp [keyD] at e1)
      rw [keyD_of e1 rx]
      refine ⟨a, _, rfl, DPut.k ha (by rw [← l.length]; exact hl), q _ ?_⟩
      rw [Own]
      exact ⟨a, _, rfl, l.put rd, rfl⟩
    · cases e
  | dT kvs =>
    cases k with
    | tup ks =>
      simp only [stD] at e
      split at e
      · rename_i hl
        obtain ⟨j, e1, e2⟩ := Option.map_eq_some_iff.mp e
        subst e2
        rw [Own] at ow
        obtain ⟨a', ys, e3, l, e4⟩ := ow
        cases e3
        cases e4
        obtain ⟨b, zs, ex, hb, lb⟩ := top_tup tk
        have ez := keysD_of e1 lb
        subst ez ex
        refine ⟨a, _, rfl, DPut.t ha (gd.sub _ _ hb) (by rw [← l.length]; exact hl), q _ ?_⟩
        rw [Own]
        exact ⟨a, _, rfl, l.put rd, rfl⟩
      · cases e
    | _ => cases e
  | _ => cases e
theorem pset_all (hu : X.A.units + 1 < cLine) : PSet X (fun o i v H Q => rSetL o i v H Q ∨ rSetD o i v H Q) := PSet.or set_list (set_dict hu)
theorem sAll : SetOk Γ stS (fun o i v H Q => rSetL o i v H Q ∨ rSetD o i v H Q) := SetOk.or sL sD
theorem pms_put {g : Sl → D → D → Option Sl} {t : TSet} {e o i : Expr} {c co ci : M Rv} {pos tpos : Pos} (hs : PSet X t) (ok : SetOk Γ g t) (he : PE X e (tM Γ W c)) (ho : PE X o (tM Γ W co)) (hi : PE X i (tM Γ W ci))
    (ha : ∀ v, assign (.Subscript o i tpos) X.env v = (do
      let ov ← holding [v] (eval o X.env)
      let iv ← holding [v, ov] (eval i X.env)
      standAt tpos
      holding [v, ov, iv] (setItem ov iv v)
      release [v, ov, iv] []))
    (h1 : swapsWithSole [.Subscript o i tpos] e pos.line X.env = pure false) (h2 : swappedStores [.Subscript o i tpos] e X.env = pure none) :
    PS X (.Assign [.Subscript o i tpos] e pos) (tS Γ W P (cPut g c co ci)) :=
  (ps_asg he (pg_sub ho hi hs ha) h1 h2).imp fun D σ H ⟨F, E, C, R, ρ, S, rel, sk⟩ => ⟨F, E, C, R, ρ, S, rel, CK.datumS sk fun d ρ1 S1 w1 v1 x1 rel1 o1 sk1 =>
    ⟨w1.F, w1.E, w1.C, w1.R, ρ1, S1, rel1, CK.bindS (SK.ext x1 .refl sk1) fun ro ρ2 S2 w2 v2 x2 rel2 o2 sk2 =>
      ⟨w2.F, w2.E, w2.C, w2.R, ρ2, S2, rel2, CK.bindS (SK.ext x2 .refl sk2) fun ri ρ3 S3 w3 v3 x3 rel3 o3 sk3 => by
        cases e1 : getP ro ρ3 S3 with
        | none => simp only [e1] at sk3; exact sk3.elim
        | some s =>
          cases e2 : cont ρ3 S3 ri with
          | none => simp only [e1, e2] at sk3; exact sk3.elim
          | some k =>
            simp only [e1, e2] at sk3
            cases e3 : g s k d with
            | none => simp only [e3] at sk3; exact sk3.elim
            | some s' =>
              simp only [e3] at sk3
              obtain ⟨a, ob, ev, ha, ow, fin⟩ := rel3.place (o2.up x3) e1
              subst ev
              refine ok w3 a ob s s' k d v3 v1 _ rel3.good ha ow (rel3.top o3 e2) ((o1.up x2.gr).up x3.gr) e3 fun o' ow' => ?_
              obtain ⟨w', eH, x', _, rel', _, _⟩ := fin s' o' ow'
              rw [← eH]
              exact sk3 w' σ (x3.trans x') .refl rel'⟩⟩⟩
end
def tyS : String → Sl → Bool
  | T, .lst _ => T == "list"
  | T, .dK _ => T == "dict"
  | T, .dT _ => T == "dict"
  | _, _ => false
/-- g: what is handed back, and the thing behind -/
def cMm (T : String) (g : Sl → List D → Option (D × Sl)) (co : M Rv) (cs : M (List D)) : M Rv := fun ρ S => (co ρ S).bind fun ro ρ S => match getP ro ρ S with
  | some s0 => if tyS T s0 = true then (cs ρ S).bind fun ds ρ S => (match getP ro ρ S with
    | some s => (match g s ds with
      | some (d, s') => .ok (.d d) (putP ro s' ρ S).1 (putP ro s' ρ S).2 ro.isEnv
      | none => .bad)
    | none => .bad) else .bad
  | none => .bad
def setSto (i : Nat) (r : Rv) : M Fl := fun ρ S => match r with
  | .fr s => if i < ρ.length ∧ s.one = true then .ok .nx (ρ.set i (.val (.ob S.length))) (S ++ [s]) false else .bad
  | _ => .bad
def cSto (i : Nat) (c : M Rv) : M Fl := fun ρ S => (c ρ S).bind fun r ρ S => setSto i r ρ S
section
variable {Γ : Gm} {W : WX} {P : List Nat} {w w0 w1 : Wd} {σ : L2.St} {ρ S : List Sl} {X : Cx}
theorem OwnS.snoc {R : List Addr} {F : Hp} {s : Sl} {a : Addr} {c : Cells} (o : OwnO Γ R F s (some (.ref a)) c) : ∀ {S : List Sl} {r : List Addr} {C : Cells}, OwnS Γ R F S r C → OwnS Γ R F (S ++ [s]) (r ++ [a]) (C ++ c)
  | [], r, C, h => by
    obtain ⟨rfl, rfl⟩ := h
    exact ⟨a, [], c, [], rfl, o, ⟨rfl, rfl⟩, by simp⟩
  | x :: S, r, C, h => by
    obtain ⟨b, r', c1, c2, e1, q, l, e2⟩ := h
    subst e1 e2
    exact ⟨b, r' ++ [a], c1, c2 ++ c, rfl, q, OwnS.snoc o l, by simp⟩
/-- a new thing becomes the store's -/
theorem Rel.push {s : Sl} {v : V} (x : Ext w0 w1) (h : Rel Γ w1 ρ S σ) (o : RvOk Γ w0 w1 σ (.fr s) v) (e : s.one = true) : ∃ w2, w2.H = w1.H ∧ Ext w0 w2 ∧ Rel Γ w2 ρ (S ++ [s]) σ ∧ w2.E = w1.E ∧ Rep Γ w2.R w2.F (.ob S.length) v := by iterate
  obtain ⟨c, ow, f, b⟩ := o
  obtain ⟨a, ob, e1, e2⟩ := Own.one_of e ow
  subst e1 e2
  have g := h.good
  have gr : Gr w1.R (w1.R ++ [a]) w1.F w1.F := ⟨⟨[a], rfl⟩, fun _ _ h => h⟩
  have ha := f.at_ (a, ob) (by simp)
  have ead : Wd.ad ⟨w1.F, w1.E, w1.C ++ [(a, ob)], w1.R ++ [a], w1.H⟩ = w1.ad ++ [a] := by show (w1.E ++ (w1.C ++ [(a, ob)])).map _ = (w1.E ++ w1.C).map _ ++ _; simp
  refine ⟨⟨w1.F, w1.E, w1.C ++ [(a, ob)], w1.R ++ [a], w1.H⟩, rfl, ⟨x.gr.trans gr, x.keep, fun z hz => ?_, x.fnew, x.live⟩, ⟨⟨g.sub, fun p hp => ?_, ?_⟩, h.own.1.up gr, ?_⟩, rfl, ?_⟩
  · rw [ead] at hz
    rcases List.mem_append.mp hz with y | y
    · exact x.cnew z y
    · have y : z = a := by simpa using y
      subst y
      rcases b (z, ob) (by simp) with y | y
      · exact .inr y
      · exact .inl y
  · have hp : p ∈ w1.E ++ (w1.C ++ [(a, ob)]) := hp
    rw [← List.append_assoc] at hp
    rcases List.mem_append.mp hp with y | y
    · exact g.cell p y
    · have y : p = (a, ob) := by simpa using y
      subst y
      exact ⟨ha.1, ha.2.1⟩
  · rw [ead]
    refine List.nodup_append.mpr ⟨g.nd, by simp, fun p hp q hq z => ?_⟩
    have hq : q = a := by simpa using hq
    subst hq
    exact ha.2.2 (z ▸ hp)
  · exact OwnS.snoc ((OwnO.mk ow).up gr) (h.own.2.up gr)
  · rw [Rep]
    have hl := h.own.2.length
    refine ⟨a, ?_, rfl⟩
    show (w1.R ++ [a])[S.length]? = some a
    rw [hl]
    simp
theorem setSto_ok {D : Ends} {i : Nat} {r : Rv} {v : V} (hp : i ∉ P) (x : Ext w0 w1) (h : Rel Γ w1 ρ S σ) (o : RvOk Γ w0 w1 σ r v) (sk : SK Γ W P w0 σ D (setSto i r ρ S)) : D.nx (σ.set i (some v)) w1.H := by
  cases r with
  | fr s =>
    simp only [setSto] at sk
    split at sk
    · rename_i hi
      obtain ⟨w2, eH, x2, r2, _, rep⟩ := Rel.push x h o hi.2
      obtain ⟨w3, e3, x3, r3, _, _⟩ := r2.setVal hi.1 rep
      have z := sk w3 (σ.set i (some v)) (x2.trans x3) (.set hp) r3
      rw [e3, eH] at z
      exact z
    · exact sk.elim
  | _ => exact sk.elim
theorem pms_sto {x : Str} {e : Expr} {c : M Rv} {i : Nat} {pos npos : Pos} (he : PE X e (tM Γ W c)) (hp : i ∉ P) (hN : X.N.Nodup) (hi : X.N[i]? = some x) (hx : Loc X.env.scope x) (hf : X.fn x = true ∨ X.env.scope.names.lookup x = some .local)
    (hs : swapsWithSole [.Name x npos] e pos.line X.env = pure false) (hw : swappedStores [.Name x npos] e X.env = pure none) : PS X (.Assign [.Name x npos] e pos) (tS Γ W P (cSto i c)) :=
  (ps_asg he (pg_name hN hi hx hf) hs hw).imp fun D σ H ⟨F, E, C, R, ρ, S, rel, sk⟩ => ⟨F, E, C, R, ρ, S, rel, CK.bindS sk fun r ρ1 S1 w1 v1 x1 rel1 o1 sk1 => setSto_ok hp x1 rel1 o1 sk1⟩
end
def setT (g : Tgt) (d : D) : M Fl := fun ρ S => match bindT g d ρ with
  | some ρ' => .ok .nx ρ' S false
  | none => .bad
def cSetT (g : Tgt) (c : M Rv) : M Fl := fun ρ S => (cD c ρ S).bind fun d ρ S => setT g d ρ S
/-- a, b = x, y: the pair never stands -/
def cPar (i j : Nat) (cs : M (List D)) : M Fl := fun ρ S => (cs ρ S).bind fun ds ρ S => match ds with
  | [d, e] => if i < ρ.length ∧ j < ρ.length then .ok .nx ((ρ.set i (.val d)).set j (.val e)) S false else .bad
  | _ => .bad
def cPar3 (i j k : Nat) (cs : M (List D)) : M Fl := fun ρ S => (cs ρ S).bind fun ds ρ S => match ds with
  | [d, e, f] => if i < ρ.length ∧ j < ρ.length ∧ k < ρ.length then .ok .nx (((ρ.set i (.val d)).set j (.val e)).set k (.val f)) S false else .bad
  | _ => .bad
def env0 (n : Nat) (ds : List D) : List Sl := ds.map .val ++ List.replicate (n - ds.length) .emp
def endM : Res Fl → Res Rv
  | .ok .nx _ S _ => .ok (.d .non) [] S false
  | .ok (.rt r) _ S _ => .ok r [] S false
  | .ex x _ S => .ex x [] S
  | _ => .bad
def defM (n : Nat) (c : M Fl) : List D → List Sl → Res Rv := fun ds S => endM (c (env0 n ds) S)
section
variable {Γ : Gm} {w w0 w1 : Wd} {σ : L2.St} {ρ S : List Sl}
theorem OwnE.emps {R : List Addr} {F : Hp} : ∀ k : Nat, OwnE Γ R F (List.replicate k .emp) (List.replicate k none) []
  | 0 => ⟨rfl, rfl⟩
  | k + 1 => ⟨none, List.replicate k none, [], [], rfl, rfl, OwnE.emps k, rfl⟩
theorem OwnE.params {R : List Addr} {F : Hp} (k : Nat) : ∀ {ds : List D} {vs : List V}, RepL Γ R F ds vs → OwnE Γ R F (ds.map Sl.val ++ List.replicate k .emp) (vs.map some ++ List.replicate k none) []
  | [], vs, h => by rw [RepL] at h; subst h; exact OwnE.emps k
  | d :: ds, vs, h => by
    rw [RepL] at h
    obtain ⟨v, vs', e, r, l⟩ := h
    subst e
    exact ⟨some v, vs'.map some ++ List.replicate k none, [], [], rfl, ⟨v, rfl, by rw [Own]; exact ⟨rfl, r⟩⟩, OwnE.params k l, rfl⟩
/-- behind a def: the frame's own things are nobody's -/
theorem Rel.leave (h : Rel Γ w1 ρ S σ) (x : Ext w0 w1) : Ext w0 ⟨w1.F, [], w1.C, w1.R, w1.H⟩ ∧ RelS Γ ⟨w1.F, [], w1.C, w1.R, w1.H⟩ S ∧ ∀ r v, RvOk Γ w0 w1 [] r v → RvOk Γ w0 ⟨w1.F, [], w1.C, w1.R, w1.H⟩ [] r v := by iterate
  have sub : ∀ a, a ∈ Wd.ad ⟨w1.F, [], w1.C, w1.R, w1.H⟩ → a ∈ w1.ad := fun a z => by
    have z : a ∈ (([] : Cells) ++ w1.C).map (fun p => p.1) := z
    show a ∈ (w1.E ++ w1.C).map (fun p => p.1)
    rw [List.nil_append] at z
    rw [List.map_append]
    exact List.mem_append_right _ z
  refine ⟨⟨x.gr, x.keep, fun a z => x.cnew a (sub a z), x.fnew, x.live⟩, h.callee, fun r v o => ?_⟩
  cases r with
  | d _ => exact o
  | env i => exact o
  | fr s =>
    obtain ⟨c, ow, f, b⟩ := o
    exact ⟨c, ow, ⟨fun p hp => by
      obtain ⟨a1, a2, a3⟩ := f.at_ p hp
      exact ⟨a1, a2, fun z => a3 (sub _ z)⟩, f.nd⟩, b⟩
theorem fn_dv {P : Program} {wd : World} {K : PySem.W.Frag} {mg : Str → Option Value} {base : Heap} {k : Nat} {x qual : Str} {params : Arguments} {body : List Stmt} {scope : Scope} {dvs : List V} {kws : List (Str × V)} {f : Addr} {fd : FuncData} {N ps : List Str} {c : M Fl}
    (hF : FunD K x qual params body scope dvs kws f fd) (hS : FnScope N ps scope)
    (hb : ∀ (cdv : Value) (A : Around) (outer : List Env) (s : Shared) (H : Hp) (E : XK), Room k (A.deeper (envOfC qual scope s.heap.objs.size f cdv)) →
      Takes (cxOf (L2.CX P wd) P wd K mg base N qual scope f cdv A outer s H E) (fun cls d _ H => E cls d H) →
      PassesOwn (model P wd) (cxOf (L2.CX P wd) P wd K mg base N qual scope f cdv A outer s H E).A (cxOf (L2.CX P wd) P wd K mg base N qual scope f cdv A outer s H E).env (cxOf (L2.CX P wd) P wd K mg base N qual scope f cdv A outer s H E).xe →
      PSs (cxOf (L2.CX P wd) P wd K mg base N qual scope f cdv A outer s H E) body (tS Γ (fun cls d _ H => E cls d H) [] c)) :
    FnOk P wd K mg base (L2.CX P wd) (k + 1) f fd ps (spM Γ ps.length (defM N.length c)) := by iterate
  refine hF.ok hS (sp := spM Γ ps.length (defM N.length c)) (fun vs H Q E h => (show vs.length = ps.length ∧ _ from h).1) fun cdv A outer s H vs Q E hr ⟨hl, F, C, R, S, ds, rel, l, fk⟩ => ?_
  refine ⟨_, hb cdv A outer s H E hr (takes_of rfl rfl rfl rfl) (passes_of rfl), ?_⟩
  have ln := l.length
  refine ⟨F, [], C, R, env0 N.length ds, S, ⟨rel.good, ?_, rel.own⟩, ?_⟩
  · unfold env0 L2.start
    rw [ln]
    exact OwnE.params _ l
  · unfold defM at fk
    cases q : c (env0 N.length ds) S with
    | ok fl ρ' S' t =>
      rw [q] at fk
      cases fl with
      | nx =>
        intro w' σ' x' p' rel'
        obtain ⟨x2, r2, o2⟩ := rel'.leave x'
        exact fk ⟨w'.F, [], w'.C, w'.R, w'.H⟩ .non x2 r2 (show Rep Γ w'.R w'.F .non .non from rep_non)
      | rt r =>
        intro w' σ' v x' p' rel' o'
        obtain ⟨x2, r2, o2⟩ := rel'.leave x'
        exact fk ⟨w'.F, [], w'.C, w'.R, w'.H⟩ v x2 r2 (o2 r v o')
      | bk => exact fk.elim
      | ct => exact fk.elim
    | ex y ρ' S' =>
      rw [q] at fk
      intro w' σ' cls d x' p' rel' o'
      obtain ⟨x2, r2, o2⟩ := rel'.leave x'
      exact fk ⟨w'.F, [], w'.C, w'.R, w'.H⟩ cls d x2 r2 (by cases y <;> exact o')
    | bad => rw [q] at fk; exact fk
end
end DV
namespace DV
open PySem PySem.Spec PyProof.Rows L2
def inK (l : List Key) : Key → Bool := fun k => l.any fun y => decide (y = k)
def stepK (l : List Key) (k : Key) : List Key := if inK l k = true then l else l ++ [k]
def metK (ks : List Key) (i : Nat) : List Key := (ks.take i).foldl stepK []
theorem SetOf.eq {prog : Program} {wd : World} {h : Heap} {a : Addr} {S S' : Key → Bool} {n n' : Nat} (r : h.SetOf (mixKind prog wd) a S n) (e : ∀ k, S k = S' k) (en : n = n') : h.SetOf (mixKind prog wd) a S' n' := by
  obtain rfl : S = S' := funext e
  subst en
  exact r
section
variable {prog : Program} {wd : World} {A : Around} {R : Result → Shared → Prop} {J : Addr} {fps wrs : List Addr} {gg : Array GenState → Array GenState → Prop} {m : Nat} {Pv : Nat → Value → Prop} {Sv : Nat → Shared → Prop}
abbrev SetM (prog : Program) (wd : World) (h : Heap) (a : Addr) (l : List Key) : Prop := h.SetOf (mixKind prog wd) a (inK l) l.length
theorem SetM.move {h h' : Heap} {a : Addr} {l : List Key} (k : ∀ o, h.get? a = some o → h'.get? a = some o) (r : SetM prog wd h a l) : SetM prog wd h' a l := by
  obtain ⟨o, es, ep, tb, ho, rest⟩ := r
  exact ⟨o, es, ep, tb, k o ho, rest⟩
end
end DV
namespace DV
open PySem PySem.Spec PyProof.Rows L2
section
variable {X : Cx}
/-- list(text) -/
def signsV (x : Str) : List V := x.cps.toList.map fun c => .str ⟨#[c]⟩
theorem call_list_text (hc : X.calm = true) : CallR X (.type "list") (fun xs H Q => ∃ x : Str, xs = [.str x] ∧ x.length ≤ sizeLine ∧ ∀ l, H l = none → Q (.ref l) (upd H l (.lst (signsV x)))) := by iterate
  intro pins z σ H xs us Q I r h
  obtain ⟨x, rfl, hz, q⟩ := h
  obtain ⟨u, rfl, t, rfl⟩ := vals1 r
  refine call_list_str (I.ok.hd hc) x t (hn := hz) fun h' tk acc c' kp e hacc => ?_
  have rv : Vals (signsV x) acc.toList := by
    refine vals_of_idx _ _ (by simp [signsV, hacc.1]) fun j u hu => ?_
    obtain ⟨ch, t', hc', rfl⟩ := hacc.2 j u (by simpa using hu)
    exact ⟨.str ⟨#[ch]⟩, by simp [signsV, hc'], t', rfl⟩
  exact ⟨.ref z.heap.objs.size, _, I.laid (t' := tk) kp (Nat.le_refl _) (show ObjOk X.prog X.w _ h' _ (.lst (signsV x)) from ⟨by simpa [signsV, Str.length] using hz, acc.toList, c', rv, by simpa using e⟩), rfl, q _ (I.hok.fresh (Nat.le_refl _))⟩
end
section
variable {Γ : Gm} {X : Cx}
def gLenS : List D → Option Rv
  | [.str x] => if x.length ≤ sizeLine then some (.d (.int x.length)) else none
  | [.lst xs] => some (.d (.int xs.length))
  | [.kl xs] => some (.d (.int xs.length))
  | [.tup xs] => some (.d (.int xs.length))
  | [.kt xs] => some (.d (.int xs.length))
  | _ => none
def gLenK : List D → Option Rv
  | [.dK xs] => some (.d (.int xs.length))
  | _ => none
def gLenT : List D → Option Rv
  | [.dT xs] => some (.d (.int xs.length))
  | _ => none
def gLen : List D → Option Rv := fun ds => (gLenS ds).or ((gLenK ds).or (gLenT ds))
theorem topL1 {w : Wd} {d : D} {vs : List V} (h : TopL Γ w [d] vs) : ∃ v, vs = [v] ∧ Top Γ w d v := by
  obtain ⟨v, vs', e, t, r⟩ := h
  obtain rfl : vs' = [] := r
  exact ⟨v, e, t⟩
theorem okLenS : CallOk Γ gLenS (fun xs H Q => ∃ x n, xs = [x] ∧ LenV Γ.K x H n ∧ Q (.int n) H) := by iterate
  intro w vs ds Q gd t q
  match ds, q with
  | [.str x], q =>
    obtain ⟨v, rfl, t1⟩ := topL1 t
    simp only [gLenS] at q
    split at q
    · obtain rfl := top_str t1
      exact ⟨_, _, rfl, ⟨by assumption, rfl⟩, q.d gd rep_int⟩
    · exact q.elim
  | [.lst xs], q =>
    obtain ⟨v, rfl, a, ys, rfl, h, l⟩ := topL1 t
    exact ⟨_, _, rfl, .inl ⟨ys, SqL.of h, l.length⟩, q.d gd rep_int⟩
  | [.kl xs], q =>
    obtain ⟨v, rfl, t1⟩ := topL1 t
    obtain ⟨a, ys, rfl, h, l⟩ := top_kl t1
    exact ⟨_, _, rfl, .inl ⟨ys, SqL.up gd.sub h, l.length⟩, q.d gd rep_int⟩
  | [.tup xs], q =>
    obtain ⟨v, rfl, t1⟩ := topL1 t
    obtain ⟨a, ys, rfl, h, l⟩ := top_tup t1
    exact ⟨_, _, rfl, .inr ⟨ys, SqT.of (gd.sub _ _ h), l.length⟩, q.d gd rep_int⟩
  | [.kt xs], q =>
    obtain ⟨v, rfl, t1⟩ := topL1 t
    obtain ⟨a, ys, rfl, h, l⟩ := top_kt t1
    exact ⟨_, _, rfl, .inr ⟨ys, SqT.up gd.sub h, l.length⟩, q.d gd rep_int⟩
theorem okLenK : CallOk Γ gLenK (fun xs H Q => ∃ a kvs, xs = [V.ref a] ∧ H a = some (.dK kvs) ∧ Q (.int kvs.length) H) := by
  intro w vs ds Q gd t q
  match ds, q with
  | [.dK xs], q =>
    obtain ⟨v, rfl, a, ys, rfl, h, l⟩ := topL1 t
    exact ⟨_, _, rfl, h, q.d gd (by rw [l.length]; exact rep_int)⟩
theorem okLenT : CallOk Γ gLenT rLenT := by
  intro w vs ds Q gd t q
  match ds, q with
  | [.dT xs], q =>
    obtain ⟨v, rfl, a, ys, rfl, h, l⟩ := topL1 t
    exact ⟨_, _, rfl, h, q.d gd (by rw [l.length]; exact rep_int)⟩
abbrev rLen (K : PySem.W.Frag) : List V → Hp → VK → Prop := fun xs H Q => (∃ x n, xs = [x] ∧ LenV K x H n ∧ Q (.int n) H) ∨ ((∃ a kvs, xs = [V.ref a] ∧ H a = some (.dK kvs) ∧ Q (.int kvs.length) H) ∨ rLenT xs H Q)
theorem crLen : CallR X (.builtin "len") (rLen X.K) := CallR.or call_len (CallR.or call_lenD call_len_dT)
theorem okLen : CallOk Γ gLen (rLen Γ.K) := CallOk.or okLenS (CallOk.or okLenK okLenT)
inductive Ty where
  | non | bl | int | str | lst | tup | dct | ow (c : Nat)
  deriving DecidableEq
def Ty.name : Ty → String
  | .non => "NoneType"
  | .bl => "bool"
  | .int => "int"
  | .str => "str"
  | .lst => "list"
  | .tup => "tuple"
  | .dct => "dict"
  | .ow _ => "object"
def Ty.val (Γ : Gm) : Ty → Value
  | .ow c => .ref (Γ.cA c)
  | t => .type t.name
def D.typ : D → Option Ty
  | .non => some .non
  | .bl _ => some .bl
  | .int _ => some .int
  | .str _ => some .str
  | .lst _ => some .lst
  | .kl _ => some .lst
  | .tup _ => some .tup
  | .kt _ => some .tup
  | .dK _ => some .dct
  | .dT _ => some .dct
  | .ins c _ => some (.ow c)
  | _ => none
def D.asTy : D → Option Ty
  | .ty n => if n = "int" then some .int else if n = "bool" then some .bl else if n = "str" then some .str else if n = "list" then some .lst else if n = "tuple" then some .tup else if n = "dict" then some .dct else none
  | .cl c => some (.ow c)
  | _ => none
def asTys : List D → Option (List Ty)
  | [] => some []
  | d :: ds => match d.asTy, asTys ds with
    | some t, some ts => some (t :: ts)
    | _, _ => none
/-- ow: of two own classes -/
def isT (ow : Nat → Ty → Option Bool) : Ty → Ty → Option Bool
  | .ow c, t => ow c t
  | .non, .ow _ => none
  | _, .ow _ => none
  | .bl, .int => some true
  | t, u => some (decide (t = u))
def isAny (ow : Nat → Ty → Option Bool) (t : Ty) : List Ty → Option Bool
  | [] => some false
  | u :: us => match isT ow t u with
    | some true => some true
    | some false => isAny ow t us
    | none => none
def isO (ow : Nat → Ty → Option Bool) : List D → Option Rv
  | [x, c] => match x.typ, c.asTy with
    | some t, some u => (isT ow t u).map fun b => .d (.bl b)
    | _, _ => none
  | _ => none
def isM (ow : Nat → Ty → Option Bool) : List D → Option Rv
  | [x, .tup cs] => match x.typ, asTys cs with
    | some t, some (u :: us) => (isAny ow t (u :: us)).map fun b => .d (.bl b)
    | _, _ => none
  | _ => none
def gIsi (ow : Nat → Ty → Option Bool) : List D → Option Rv := fun ds => (isO ow ds).or (isM ow ds)
/-- what is known of the own classes -/
structure OwOk (Γ : Gm) (ow : Nat → Ty → Option Bool) : Prop where
  kit : ∀ c u b, ow c u = some b → PySem.W.kitOne Γ.K (.ref (Γ.cA c)) (u.val Γ) = some b
  cls : ∀ c u b, ow c u = some b → Cls Γ.K (Γ.cA c) ∧ PySem.W.findIn Γ.K (.ref (Γ.cA c)) "__class__" = some (some (.builtin "object.__class__")) ∧ PySem.W.specialIn Γ.K (.builtin "object.__class__") "__get__" = some (some (.builtin "getset_descriptor.__get__")) ∧
    PySem.W.takesIn Γ.K (.builtin "object.__class__") = some true ∧ PySem.W.mroIn Γ.K (Γ.cA c) (.type "object") = some true
theorem kit_all : ∀ a ∈ [Ty.non, .bl, .int, .str, .lst, .tup, .dct], ∀ b ∈ [Ty.int, .bl, .str, .lst, .tup, .dct], kitB a.name b.name = isT (fun _ _ => none) a b := by decide +kernel
theorem asTy_cls {w : Wd} {d : D} {v : V} {t : Ty} (e : d.asTy = some t) (h : Rep Γ w.R w.F d v) : ClsV v (t.val Γ) ∧ (t ∈ [Ty.int, .bl, .str, .lst, .tup, .dct] ∨ ∃ c, t = .ow c) := by iterate
  cases d with
  | ty n =>
    rw [Rep] at h
    subst h
    simp only [D.asTy] at e
    split at e
    · cases e; subst n; exact ⟨.ty _, .inl (by decide)⟩
    split at e
    · cases e; subst n; exact ⟨.ty _, .inl (by decide)⟩
    split at e
    · cases e; subst n; exact ⟨.ty _, .inl (by decide)⟩
    split at e
    · cases e; subst n; exact ⟨.ty _, .inl (by decide)⟩
    split at e
    · cases e; subst n; exact ⟨.ty _, .inl (by decide)⟩
    split at e
    · cases e; subst n; exact ⟨.ty _, .inl (by decide)⟩
    · cases e
  | cl c =>
    rw [Rep] at h
    subst h
    cases e
    exact ⟨.own _, .inr ⟨c, rfl⟩⟩
  | _ => cases e
theorem sqL_ty {w : Wd} {a : Addr} {ys : List V} (gd : Good w) (h : SqL Γ.K w.F a ys) : TyX Γ.K w.H (.ref a) (.type "list") := by
  rcases SqL.up gd.sub h with (h | ⟨o, h⟩) | ⟨o, its, n, e, c, _⟩
  · exact .base (.lst h)
  · exact .base (.frz h)
  · exact .kList e c
theorem sqT_ty {w : Wd} {a : Addr} {ys : List V} (gd : Good w) (h : SqT Γ.K w.F a ys) : TyX Γ.K w.H (.ref a) (.type "tuple") := by
  rcases SqT.up gd.sub h with (h | ⟨o, h⟩) | ⟨o, its, n, e, c, _⟩
  · exact .base (.tup h)
  · exact .fTuple h
  · exact .kTuple e c
theorem typ_of {ow : Nat → Ty → Option Bool} (O : OwOk Γ ow) {w : Wd} (gd : Good w) {d : D} {v : V} {t : Ty} (e : d.typ = some t) (hc : ∀ c, t = .ow c → ∃ u b, ow c u = some b) (h : Top Γ w d v) : TyX Γ.K w.H v (t.val Γ) := by iterate
  cases d with
  | non => cases e; obtain rfl := top_non h; exact .base .non
  | bl b => cases e; obtain rfl := top_bl h; exact .base (.bl b)
  | int b => cases e; obtain rfl := top_int h; exact .base (.int b)
  | str b => cases e; obtain rfl := top_str h; exact .base (.str b)
  | lst xs => cases e; obtain ⟨a, ys, rfl, q, l⟩ := h; exact .base (.lst q)
  | kl xs => cases e; obtain ⟨a, ys, rfl, q, l⟩ := top_kl h; exact sqL_ty gd q
  | tup xs => cases e; obtain ⟨a, ys, rfl, q, l⟩ := top_tup h; exact .base (.tup (gd.sub _ _ q))
  | kt xs => cases e; obtain ⟨a, ys, rfl, q, l⟩ := top_kt h; exact sqT_ty gd q
  | dK xs => cases e; obtain ⟨a, ys, rfl, q, l⟩ := h; exact .base (.dK q)
  | dT xs => cases e; obtain ⟨a, ys, rfl, q, l⟩ := h; exact .base (.dT q)
  | ins c fs =>
    cases e
    have h : Rep Γ w.R w.F (.ins c fs) v := h
    rw [Rep] at h
    obtain ⟨a, dx, gs, rfl, q, _, _⟩ := h
    obtain ⟨u, b, z⟩ := hc c rfl
    obtain ⟨c1, c2, c3, c4, c5⟩ := O.cls c u b z
    exact .base (.ins (gd.sub _ _ q) c1 c2 c3 c4 c5)
  | _ => cases e
theorem asTys_cls {w : Wd} : ∀ {ds : List D} {ys : List V} {ts : List Ty}, asTys ds = some ts → RepL Γ w.R w.F ds ys → Paired ClsV ys (ts.map (·.val Γ)) ∧ ∀ t ∈ ts, t ∈ [Ty.int, .bl, .str, .lst, .tup, .dct] ∨ ∃ c, t = .ow c
  | [], ys, ts, e, h => by
    simp only [asTys, Option.some.injEq] at e
    subst e
    rw [RepL] at h
    subst h
    exact ⟨.nil, fun t ht => by cases ht⟩
  | d :: ds, ys, ts, e, h => by
    simp only [asTys] at e
    split at e
    · rename_i t ts' e1 e2
      cases e
      rw [RepL] at h
      obtain ⟨y, ys', rfl, r, l⟩ := h
      obtain ⟨k1, k2⟩ := asTy_cls e1 r
      obtain ⟨k3, k4⟩ := asTys_cls e2 l
      refine ⟨.cons k1 k3, fun t ht => ?_⟩
      rcases List.mem_cons.mp ht with z | z
      · subst z; exact k2
      · exact k4 t z
    · cases e
end
end DV
namespace DV
open PySem PySem.Spec PyProof.Rows L2
section
variable {Γ : Gm} {X : Cx}
def gInt : List D → Option Rv
  | [.int i] => some (.d (.int i))
  | [.bl b] => some (.d (.int (if b then 1 else 0)))
  | _ => none
theorem okInt : CallOk Γ gInt (fun xs H Q => (∃ i, xs = [.int i] ∧ Q (.int i) H) ∨ ∃ k, xs = [.bl k] ∧ Q (.int (if k then 1 else 0)) H) := by
  intro w vs ds Q gd t q
  match ds, q with
  | [.int i], q =>
    obtain ⟨v, rfl, t1⟩ := topL1 t
    obtain rfl := top_int t1
    exact .inl ⟨i, rfl, q.d gd rep_int⟩
  | [.bl i], q =>
    obtain ⟨v, rfl, t1⟩ := topL1 t
    obtain rfl := top_bl t1
    exact .inr ⟨i, rfl, q.d gd rep_int⟩
def gAbs : List D → Option Rv
  | [.int i] => some (.d (.int (if i < 0 then -i else i)))
  | _ => none
theorem okAbs : CallOk Γ gAbs (fun xs H Q => ∃ i, xs = [.int i] ∧ Q (.int (if i < 0 then -i else i)) H) := by
  intro w vs ds Q gd t q
  match ds, q with
  | [.int i], q =>
    obtain ⟨v, rfl, t1⟩ := topL1 t
    obtain rfl := top_int t1
    exact ⟨i, rfl, q.d gd rep_int⟩
def signsD (x : Str) : List D := x.cps.toList.map fun c => .str ⟨#[c]⟩
def gListQ : List D → Option Rv
  | [.lst xs] => some (.fr (.lst xs))
  | [.kl xs] => some (.fr (.lst xs))
  | [.tup xs] => some (.fr (.lst xs))
  | [.kt xs] => some (.fr (.lst xs))
  | _ => none
def gListS : List D → Option Rv
  | [.str x] => if x.length ≤ sizeLine then some (.fr (.lst (signsD x))) else none
  | _ => none
def keyV : Key → D
  | .inl i => .int i
  | .inr x => .str x
def gListD : List D → Option Rv
  | [.dK kvs] => some (.fr (.lst (kvs.map fun kv => keyV kv.1)))
  | _ => none
def gList : List D → Option Rv := fun ds => (gListQ ds).or ((gListS ds).or (gListD ds))
abbrev rListQ (K : PySem.W.Frag) : List V → Hp → VK → Prop := fun xs H Q => ∃ p ys, xs = [.ref p] ∧ (SqL K H p ys ∨ SqT K H p ys) ∧ ∀ l, H l = none → Q (.ref l) (upd H l (.lst ys))
abbrev rListS : List V → Hp → VK → Prop := fun xs H Q => ∃ x : Str, xs = [.str x] ∧ x.length ≤ sizeLine ∧ ∀ l, H l = none → Q (.ref l) (upd H l (.lst (signsV x)))
theorem frLst {w : Wd} {Q : VK} {xs : List D} {ys : List V} (gd : Good w) (q : PQ Γ w Q (some (.fr (.lst xs)))) (l : RepL Γ w.R w.F xs ys) : ∀ p, w.H p = none → Q (.ref p) (upd w.H p (.lst ys)) := fun p hp => q.fr gd hp (fun ps z => nomatch z) (by rw [Own]; exact ⟨p, _, rfl, l, rfl⟩)
theorem okListQ : CallOk Γ gListQ (rListQ Γ.K) := by iterate
  intro w vs ds Q gd t q
  match ds, q with
  | [.lst xs], q =>
    obtain ⟨v, rfl, a, ys, rfl, h, l⟩ := topL1 t
    exact ⟨a, ys, rfl, .inl (SqL.of h), frLst gd q l⟩
  | [.kl xs], q =>
    obtain ⟨v, rfl, t1⟩ := topL1 t
    obtain ⟨a, ys, rfl, h, l⟩ := top_kl t1
    exact ⟨a, ys, rfl, .inl (SqL.up gd.sub h), frLst gd q l⟩
  | [.tup xs], q =>
    obtain ⟨v, rfl, t1⟩ := topL1 t
    obtain ⟨a, ys, rfl, h, l⟩ := top_tup t1
    exact ⟨a, ys, rfl, .inr (SqT.of (gd.sub _ _ h)), frLst gd q l⟩
  | [.kt xs], q =>
    obtain ⟨v, rfl, t1⟩ := topL1 t
    obtain ⟨a, ys, rfl, h, l⟩ := top_kt t1
    exact ⟨a, ys, rfl, .inr (SqT.up gd.sub h), frLst gd q l⟩
theorem rep_signs {R : List Addr} {F : Hp} : ∀ cs : List Nat, RepL Γ R F (cs.map fun c => .str ⟨#[c]⟩) (cs.map fun c => .str ⟨#[c]⟩)
  | [] => by show RepL Γ R F [] []; rw [RepL]
  | c :: cs => by
    rw [List.map_cons, List.map_cons, RepL]
    exact ⟨_, _, rfl, rep_str, rep_signs cs⟩
theorem okListS : CallOk Γ gListS rListS := by
  intro w vs ds Q gd t q
  match ds, q with
  | [.str x], q =>
    obtain ⟨v, rfl, t1⟩ := topL1 t
    obtain rfl := top_str t1
    simp only [gListS] at q
    split at q
    · exact ⟨x, rfl, by assumption, frLst gd q (rep_signs _)⟩
    · exact q.elim
theorem repK_keys {R : List Addr} {F : Hp} : ∀ {kvs : List (Key × D)} {ys : List (Key × V)}, RepK Γ R F kvs ys → RepL Γ R F (kvs.map fun kv => keyV kv.1) (ys.map fun kv => kV kv.1)
  | [], ys, h => by
    rw [RepK] at h
    subst h
    show RepL Γ R F [] []
    rw [RepL]
  | (k, d) :: kvs, ys, h => by
    rw [RepK] at h
    obtain ⟨y, ys', rfl, _, l⟩ := h
    show RepL Γ R F (keyV k :: kvs.map fun kv => keyV kv.1) (kV k :: ys'.map fun kv => kV kv.1)
    rw [RepL]
    refine ⟨_, _, rfl, ?_, repK_keys l⟩
    cases k with
    | inl i => exact rep_int
    | inr x => exact rep_str
theorem okListD : CallOk Γ gListD rListD := by
  intro w vs ds Q gd t q
  match ds, q with
  | [.dK kvs], q =>
    obtain ⟨v, rfl, a, ys, rfl, h, l⟩ := topL1 t
    exact ⟨a, ys, rfl, h, fun p hp => q.fr gd hp (fun ps z => nomatch z) (by rw [Own]; exact ⟨p, _, rfl, repK_keys l, rfl⟩)⟩
theorem crList (hc : X.calm = true) : CallR X (.type "list") (fun xs H Q => rListQ X.K xs H Q ∨ (rListS xs H Q ∨ rListD xs H Q)) := CallR.or call_list_of (CallR.or (call_list_text hc) (call_list_dK hc))
theorem okList : CallOk Γ gList (fun xs H Q => rListQ Γ.K xs H Q ∨ (rListS xs H Q ∨ rListD xs H Q)) := CallOk.or okListQ (CallOk.or okListS okListD)
def gTup : List D → Option Rv
  | [.lst xs] => some (.d (.tup xs))
  | [.kl xs] => some (.d (.tup xs))
  | [.tup xs] => some (.d (.tup xs))
  | [.kt xs] => some (.d (.kt xs))
  | _ => none
def blsD : List D → Option (List Bool)
  | [] => some []
  | .bl b :: ds => (blsD ds).map (b :: ·)
  | _ => none
theorem blsD_of {R : List Addr} {F : Hp} : ∀ {ds : List D} {bs : List Bool} {ys : List V}, blsD ds = some bs → RepL Γ R F ds ys → ys = bs.map V.bl
  | [], bs, ys, e, h => by cases e; rw [RepL] at h; subst h; rfl
  | d :: ds, bs, ys, e, h => by
    rw [RepL] at h
    obtain ⟨y, r, rfl, q, l⟩ := h
    cases d with
    | bl b =>
      obtain ⟨cs, e1, rfl⟩ := Option.map_eq_some_iff.mp e
      rw [Rep] at q
      subst q
      rw [blsD_of e1 l]
      rfl
    | _ => cases e
def gAll : List D → Option Rv
  | [.lst xs] => (blsD xs).map fun bs => .d (.bl (bs.all id))
  | _ => none
theorem okAll : CallOk Γ gAll (rAll Γ.K) := by
  intro w vs ds Q gd t q
  match ds, q with
  | [.lst xs], q =>
    obtain ⟨v, rfl, a, ys, rfl, h, l⟩ := topL1 t
    simp only [gAll] at q
    cases e : blsD xs with
    | none => rw [e] at q; exact q.elim
    | some bs =>
      rw [e] at q
      obtain rfl := blsD_of e l
      exact ⟨a, bs, rfl, SqL.of h, q.d gd rep_bl⟩
def D.itemsL : D → Option (List D)
  | .lst xs => some xs
  | .kl xs => some xs
  | _ => none
def cLenSet (c : M Rv) : M Rv := fun ρ S => (c ρ S).bind fun r ρ S => match (cont ρ S r).bind D.itemsL with
  | some xs => (match keysD xs with
    | some ks => if ks.length + 1 < scanBound then .ok (.d (.int (metK ks ks.length).length)) ρ S false else .bad
    | none => .bad)
  | none => .bad
end
end DV
namespace DV
open PySem PySem.Spec PyProof.Rows L2
def cTst (c : M Rv) : M Bool := fun ρ S => (c ρ S).bind fun r ρ S => match r with
  | .d (.bl b) => .ok b ρ S false
  | _ => .bad
section
variable {X : Cx} {Γ : Gm} {W : WX} {a b c e : Expr} {ca cb cc : M Rv} {pos : Pos}
theorem tst_core {c : M Rv} {σ : L2.St} {H : Hp} {Q : Bool → Hp → Prop} (h : tMb Γ W (cTst c) σ H Q) : tM Γ W c σ H (fun x H' => ∃ k, x = .bl k ∧ Q k H') := by iterate
  obtain ⟨F, E, C, R, ρ, S, rel, ck⟩ := h
  refine ⟨F, E, C, R, ρ, S, rel, ?_⟩
  unfold cTst at ck
  cases q : c ρ S with
  | ok r ρ1 S1 t =>
    rw [q] at ck
    intro w1 v x1 e1 r1 o1
    rw [Res.bind_ok] at ck
    have ck1 := CKb.ext x1 e1 ck
    cases r with
    | d d0 =>
      cases d0 with
      | bl k =>
        have o1 : Rep Γ w1.R w1.F (.bl k) v := o1
        rw [Rep] at o1
        exact ⟨k, o1, ck1 w1 (.refl _) (fun _ => rfl) r1⟩
      | _ => exact ck1.elim
    | _ => exact ck1.elim
  | ex y ρ1 S1 => rw [q] at ck; exact ck
  | bad => rw [q] at ck; exact ck
theorem pmt_cmp {op : CmpOp} {g : D → D → Option Rv} {r : R2} (ho : OpR X (compareOp op) r) (hg : BinOk Γ g r) (ha : PE X a (tM Γ W ca)) (hb : PE X b (tM Γ W cb)) (hm : behindInMarks op b = false) : PT X (.Compare a [op] [b] pos) (tMb Γ W (cTst (cBin g ca cb))) :=
  (pt_cmpR ho ha hb hm).imp fun _ _ _ h => bin_core hg (tst_core h)
def cNeg (c : M Rv) : M Rv := fun ρ S => (c ρ S).bind fun r ρ S => match cont ρ S r with
  | some (.int i) => .ok (.d (.int (-i))) ρ S false
  | _ => .bad
theorem pm_neg (ha : PE X a (tM Γ W ca)) : PE X (.UnaryOp .USub a pos) (tM Γ W (cNeg ca)) :=
  (pe_un un_neg ha).imp fun σ H Q ⟨F, E, C, R, ρ, S, rel, ck⟩ => ⟨F, E, C, R, ρ, S, rel, CK.bind ck fun r ρ1 S1 w1 v1 x1 rel1 o1 ck1 => by
    cases e1 : cont ρ1 S1 r with
    | none => simp only [e1] at ck1; exact ck1.elim
    | some d =>
      have tp := rel1.top o1 e1
      simp only [e1] at ck1
      cases d with
      | int i => exact ⟨i, top_int tp, ck1 w1 (.int (-i)) (.refl _) (fun _ => rfl) rel1 (show Rep Γ w1.R w1.F (.int (-i)) _ from rep_int)⟩
      | _ => exact ck1.elim⟩
end
def pick {α : Type} (is : List Nat) (xs : List α) : List α := is.filterMap fun i => xs[i]?
theorem pick_len {α : Type} {xs : List α} : ∀ {is : List Nat}, (∀ i ∈ is, i < xs.length) → (pick is xs).length = is.length
  | [], _ => rfl
  | i :: is, h => by
    have hi : i < xs.length := h i (by simp)
    have e : xs[i]? = some (xs[i]'hi) := List.getElem?_eq_getElem hi
    have ih := pick_len (xs := xs) (is := is) fun j hj => h j (by simp [hj])
    unfold pick at ih ⊢
    rw [List.filterMap_cons, e, List.length_cons, List.length_cons, ih]
theorem vals_pick {vs : List V} {us : List Value} (r : Vals vs us) : ∀ is : List Nat, Vals (pick is vs) (pick is us)
  | [] => .nil
  | i :: is => by
    unfold pick
    rw [List.filterMap_cons, List.filterMap_cons]
    cases e : vs[i]? with
    | none =>
      have e2 : us[i]? = none := by
        rw [List.getElem?_eq_none_iff] at e ⊢
        rw [← r.length]
        exact e
      rw [e2]
      exact vals_pick r is
    | some v =>
      obtain ⟨u, e2, ru⟩ := r.get e
      rw [e2]
      exact .cons ru (vals_pick r is)
theorem RepL.pick {Γ : Gm} {R : List Addr} {F : Hp} {ds : List D} {vs : List V} (l : RepL Γ R F ds vs) : ∀ is : List Nat, RepL Γ R F (DV.pick is ds) (DV.pick is vs)
  | [] => by show RepL Γ R F [] []; rw [RepL]
  | i :: is => by
    unfold DV.pick
    rw [List.filterMap_cons, List.filterMap_cons]
    cases e : ds[i]? with
    | none =>
      have e2 : vs[i]? = none := by
        rw [List.getElem?_eq_none_iff] at e ⊢
        rw [← l.length]
        exact e
      rw [e2]
      exact l.pick is
    | some d =>
      obtain ⟨v, e2, r⟩ := l.get e
      rw [e2, RepL]
      exact ⟨v, _, rfl, r, l.pick is⟩
section
variable {Γ : Gm} {K : PySem.W.Frag} {x qual : Str} {params : Arguments} {body : List Stmt} {scope : Scope} {dvs : List V} {kws : List (Str × V)} {f : Addr} {fd : FuncData} {ps : List Str}
/-- no default is used -/
theorem cb_N (F : FunD K x qual params body scope [] kws f fd) (n : Nat) (ks : List Str) (ix : List Nat) (hl : ix.length = ps.length) (hi : ∀ i ∈ ix, i < n + ks.length)
    (h : ∀ (kV doc pm : Value) (an : Option Addr) (cdv ct : Value) (us ws : List Value), us.length = n → ws.length = ks.length → bindArgs (PySem.W.fnOf x qual params body scope .none kV doc pm an cdv ct) ⟨us, ks.zip ws⟩ = pure (ps.zip (pick ix (us ++ ws)))) :
    CallB Γ K fd ps n ks (fun ds es => pick ix (ds ++ es)) := by iterate
  obtain ⟨oc, od, dV, kV, doc, pm, an, cdv, ct, osl, rfl, lk, hcd, hD, hK⟩ := F.ex
  rcases hD with ⟨_, rfl⟩ | ⟨e, _⟩
  · refine ⟨fun us ws => pick ix (us ++ ws), fun vs zs => pick ix (vs ++ zs), ⟨fun s us ws X l1 l2 => .of_eq (h kV doc pm an cdv ct us ws l1 l2), fun r1 r2 => vals_pick (r1.append r2) ix⟩, fun R F ds vs es zs l1 l2 n1 n2 => ⟨(l1.app l2).pick ix, ?_⟩⟩
    rw [pick_len, hl]
    intro i hx
    rw [List.length_append, l1.length, l2.length, n1, n2]
    exact hi i hx
  · exact absurd rfl e
end
/-- a def that is never reached -/
theorem fn_zero {Γ : Gm} {P : Program} {w : World} {K : PySem.W.Frag} {mg : Str → Option Value} {base : Heap} {f : Addr} {fd : FuncData} {ps : List Str} {CX : CXT} {k : Nat} : FnOk P w K mg base CX k f fd ps (spM Γ ps.length (fun _ _ => .bad)) :=
  ⟨fun vs H Q E h => (show vs.length = ps.length ∧ _ from h).1, fun A outer s H args us vs Q E hr e0 hb r h => by
    obtain ⟨_, F, C, R, S, ds, _, _, fk⟩ := h
    exact fk.elim⟩
end DV
namespace DV
open PySem PySem.Spec PyProof.Rows L2
section
variable {X : Cx} {Γ : Gm}
abbrev rAddAll (K : PySem.W.Frag) : R2 := fun x y H Q => rI0 (fun i j => .int (i + j)) x y H Q ∨ ((∃ i j, x = .str i ∧ y = .str j ∧ i.length + j.length ≤ sizeLine ∧ Q (.str (i ++ j)) H) ∨ (rCat x y H Q ∨ rCatT K x y H Q))
theorem opAdd : OpR X (binaryOp .Add) (rAddAll X.K) := OpR.or op_add (OpR.or op_add_str (OpR.or op_cat op_catT))
theorem bAdd : BinOk Γ oAdd (rAddAll X.K) := BinOk.or bAddI (BinOk.or bAddS (BinOk.or bAddL bAddT))
abbrev rMulAll : R2 := fun x y H Q => (rI CMul (fun i j => .int (i * j)) x y H Q ∨ rI CMulW (fun i j => .int (i * j)) x y H Q) ∨ (rRep x y H Q ∨ rMulS x y H Q)
theorem opMul : OpR X (binaryOp .Mult) rMulAll := OpR.or (OpR.or op_mul op_mulW) (OpR.or op_rep op_mulS)
theorem bMul : BinOk Γ oMul rMulAll := BinOk.or bMulI (BinOk.or bMulL bMulS)
abbrev rEqAll (K : PySem.W.Frag) : R2 := fun x y H Q => rEq x y H Q ∨ rEqD K x y H Q
abbrev rNeAll (K : PySem.W.Frag) : R2 := fun x y H Q => rNe x y H Q ∨ rNeD K x y H Q
theorem opEq (hu : X.A.units + 64 < cLine) : OpR X (compareOp .Eq) (rEqAll X.K) := OpR.or op_eq (op_eqD hu)
theorem opNe (hu : X.A.units + 64 < cLine) : OpR X (compareOp .NotEq) (rNeAll X.K) := OpR.or op_ne (op_neD hu)
theorem bEq : BinOk Γ (oEq false) (rEqAll Γ.K) := BinOk.or bEqS bEqD
theorem bNe : BinOk Γ (oEq true) (rNeAll Γ.K) := BinOk.or bNeS bNeD
abbrev rInAll (K : PySem.W.Frag) (neg : Bool) : R2 := fun x y H Q => rIn K neg x y H Q ∨ ((∃ i j, x = .str i ∧ y = .str j ∧ Q (.bl (if neg = true then !(!(Builtin.Str.occurrences j i 0 j.length 1).isEmpty) else !(Builtin.Str.occurrences j i 0 j.length 1).isEmpty)) H) ∨ DV.rInD neg x y H Q)
theorem opIn (hu : X.A.units + 1 < cLine) : OpR X (compareOp .In) (rInAll X.K false) := OpR.or op_in_seq (OpR.or op_in_str (DV.op_inD hu))
theorem bIn : BinOk Γ (oIn false) (rInAll Γ.K false) := BinOk.or (bInL false) (BinOk.or bInS (bInD false))
abbrev rIsAll : R2 := fun x y H Q => (y = .non ∧ Q (.bl (decide (x = .non))) H) ∨ rIsB x y H Q
theorem opIs : OpR X (compareOp .Is) rIsAll := OpR.or op_isN op_isBl
theorem bIs : BinOk Γ (oIs false) rIsAll := BinOk.or bIsN bIsB
/-- y[x] -/
def oGet : D → D → Option Rv := fun y x => (oIx y x).or (oIxD y x)
abbrev rGetAll (K : PySem.W.Frag) : R2 := fun x y H Q => rIx K x y H Q ∨ DV.rIxD x y H Q
theorem ixAll (hu : X.A.units + 1 < cLine) : IxR X (rGetAll X.K) := IxR.or ix_seq (ix_dict hu)
theorem bGet : BinOk Γ oGet (rGetAll Γ.K) := BinOk.or bIx bIxD
/-- slices -/
def oSlS : D → Option Int → Option Int → Option Rv
  | .str z, lo, hi => if z.length ≤ sizeLine then some (.d (.str (cutS z lo hi))) else none
  | _, _, _ => none
theorem bSlS : SlOk Γ oSlS rSlS := by
  intro w v d lo hi Q gd t q
  cases d with
  | str z =>
    simp only [oSlS] at q
    split at q
    · exact ⟨z, top_str t, by assumption, q.d gd rep_str⟩
    · exact q.elim
  | _ => exact q.elim
def oSlT : D → Option Int → Option Int → Option Rv
  | .tup xs, lo, hi => if HT.sIx xs.length 0 lo = 0 ∧ HT.sIx xs.length xs.length hi = xs.length then none else some (.d (.tup (cutD xs lo hi)))
  | _, _, _ => none
theorem bSlT : SlOk Γ oSlT (rSlT Γ.K) := by iterate
  intro w v d lo hi Q gd t q
  cases d with
  | tup xs =>
    simp only [oSlT] at q
    split at q
    · exact q.elim
    · rename_i n
      have t : Rep Γ w.R w.F (.tup xs) v := t
      rw [Rep] at t
      obtain ⟨a, ys, e, h, l⟩ := t
      refine ⟨a, ys, e, SqT.of (gd.sub _ _ h), by rw [← l.length]; exact n, fun p hp => q.new gd hp ?_⟩
      rw [Rep]
      exact ⟨p, _, rfl, upd_same, (l.up ⟨⟨[], by simp⟩, updF_up (gd.none_of hp).1⟩).cut lo hi⟩
  | _ => exact q.elim
def oCut : D → Option Int → Option Int → Option Rv := fun d lo hi => (oSl d lo hi).or ((oSlS d lo hi).or (oSlT d lo hi))
abbrev rCutAll (K : PySem.W.Frag) : V → Option Int → Option Int → Hp → VK → Prop := fun x lo hi H Q => rSlL K x lo hi H Q ∨ (rSlS x lo hi H Q ∨ rSlT K x lo hi H Q)
theorem slAll : SlR X (rCutAll X.K) := SlR.or sl_list (SlR.or sl_str sl_tup)
theorem bCut : SlOk Γ oCut (rCutAll Γ.K) := SlOk.or bSlL (SlOk.or bSlS bSlT)
end
section
variable {X : Cx} {Γ : Gm} {W : WX} {x : Str} {pos : Pos}
theorem pm_gO {d : D} {a : Addr} (hm : X.mg x = some (.ref a)) (hr : ∀ R F, Rep Γ R F d (.ref a)) (hg : Gl X x) (hd : (x == ("__debug__" : Str)) = false) : PE X (.Name x pos) (tM Γ W (cC d)) :=
  pm_glob (v := .ref a) hr hg hm rfl hd
theorem pm_gT {n : String} (hm : X.mg x = none) (hv : bootBuiltins x = some (.type n)) (hg : Gl X x) (hn : x ≠ "__name__") (hd : (x == ("__debug__" : Str)) = false) : PE X (.Name x pos) (tM Γ W (cC (.ty n))) :=
  pm_bltn (v := .ty n) (fun _ _ => by rw [Rep]) hg hm hv rfl hn hd
theorem repL_nil {R : List Addr} {F : Hp} : RepL Γ R F [] [] := by rw [RepL]
theorem repL_cons {R : List Addr} {F : Hp} {d : D} {v : V} {ds : List D} {vs : List V} (h : Rep Γ R F d v) (l : RepL Γ R F ds vs) : RepL Γ R F (d :: ds) (v :: vs) := by rw [RepL]; exact ⟨v, vs, rfl, h, l⟩
theorem takes0 : Takes X W0 := fun _ _ ⟨_, _, _, _, _, _, _, _, _, _, _, _, _, _, _, _, h⟩ => h.elim
end
def obsX (chk : PySem.W.Frag → Bool) (fn : List He.DefD) (K : PySem.W.Frag) : He.AlD := (chk K && fn.all fun d => d.ok K, fn.map fun d => He.fnW K d.at_)
def SaysX (chk : PySem.W.Frag → Bool) (fn : List He.DefD) (K : PySem.W.Frag) : Prop := obsX chk fn K = He.valD fn
theorem SaysX.chk {chk : PySem.W.Frag → Bool} {fn : List He.DefD} {K : PySem.W.Frag} (c : SaysX chk fn K) : chk K = true := (He.ba (show (chk K && fn.all fun d => d.ok K) = true from congrArg (fun z : He.AlD => z.1) c)).1
theorem SaysX.fn {chk : PySem.W.Frag → Bool} {fn : List He.DefD} {K : PySem.W.Frag} (c : SaysX chk fn K) (i : Nat) {d : He.DefD} (h : fn[i]? = some d) : ∃ fd, FunD K d.name d.qual d.params d.body d.scope (d.dvs K) (d.kws K) (He.fAd K d.at_) fd := by iterate
  have c2 := (He.ba (show (chk K && fn.all fun d => d.ok K) = true from congrArg (fun z : He.AlD => z.1) c)).2
  have e : fn.map (fun d => He.fnW K d.at_) = fn.map He.DefD.val := congrArg (fun z : He.AlD => z.2) c
  have e2 : (fn.map fun d => He.fnW K d.at_)[i]? = (fn.map He.DefD.val)[i]? := by rw [e]
  rw [List.getElem?_map, List.getElem?_map, h] at e2
  exact He.DefD.funD (Option.some.inj e2) (List.all_eq_true.mp c2 d (List.mem_of_getElem? h))
/-- what the law's mirror owes: of every script of at most n numbers it gives True -/
theorem law_sp {Γ : Gm} {n : Nat} {m : List D → List Sl → Res Rv} (hm : ∀ ns : List Int, ns.length ≤ n → ∃ ρ S t, m [.kl (ns.map .int)] [] = .ok (.d (.bl true)) ρ S t) (H : Hp) (a : Addr) (ns : List Int) (hl : ns.length ≤ n) (hS : SqL Γ.K H a (ns.map V.int)) :
    spM Γ 1 m [.ref a] H (fun v _ => v = .bl true) fun _ _ _ => False := by iterate
  obtain ⟨ρ, S, t, e⟩ := hm ns hl
  refine ⟨rfl, H, [], [], [], [.kl (ns.map .int)], ⟨⟨fun _ _ h => h, fun p hp => by simp at hp, by simp⟩, rfl, ⟨rfl, rfl⟩⟩, ?_, ?_⟩
  · refine repL_cons ?_ repL_nil
    rw [Rep]
    refine ⟨a, _, rfl, hS, ?_⟩
    clear hS e hl
    induction ns with
    | nil => exact repL_nil
    | cons i r ih => exact repL_cons rep_int ih
  · rw [e]
    exact fun w' v x' h' ok => by
      have ok : Rep Γ w'.R w'.F (.bl true) v := ok
      rw [Rep] at ok
      exact ok
theorem cx_never {P : Program} {w : World} (H : Hp) (s : Shared) (e : Value) (s' : Shared) : L2.CX P w [] H s (fun _ _ _ => False) e s' → False := by
  rintro ⟨_, _, _, _, _, _, _, _, _, _, _, _, h⟩
  exact h
section
variable {X : Cx} {Γ : Gm} {W : WX} {k : Nat} {f : Addr} {fd : FuncData} {ps : List Str} {x : Str} {p pos : Pos} {e : Expr} {es : List Expr} {kws : List Keyword} {cs ck : M (List D)} {m : List D → List Sl → Res Rv} {gD : List D → List D → List D}
theorem pm_callJ {n j : Nat} (ks : List Str) (hj : ks.length = j) (F : FnOk X.prog X.w X.K X.mg X.base (L2.CX X.prog X.w) k f fd ps (spM Γ ps.length m)) (hr : Room k X.A) (hg : Gl X x) (hm : X.mg x = some (.ref f)) (hk : PySem.W.keepIn X.K (.ref f) = true) (hb : CallB Γ X.K fd ps n ks gD) (tk : Takes X W)
    (ha : PA X (e :: es) (tMl Γ W cs)) (hkw : PK X kws (tMl Γ W ck)) (hall : (backToKw pos (keywordEach kws X.env)).all (·.1.isSome) = true) (hks : (backToKw pos (keywordEach kws X.env)).filterMap (·.1) = ks)
    (hdb : (x == ("__debug__" : Str)) = false) (he : starEach (e :: es) X.env = (false, eval e X.env) :: starEach es X.env)
    (hpl : ((backTo pos (starEach (e :: es) X.env)).any (·.1) || (backToKw pos (keywordEach kws X.env)).any (·.1.isNone)) = false) :
    PE X (.Call (.Name x p) (e :: es) kws pos) (tM Γ W (cCall m n j gD cs ck)) := by
  subst hj
  exact pm_call F hr hg hm hk hb tk ha hkw hall hks hdb he hpl
end
theorem funD_same {K : PySem.W.Frag} {x qual : Str} {params : Arguments} {body : List Stmt} {scope : Scope} {dvs : List V} {kws : List (Str × V)} {f : Addr} {fd fd' : FuncData} (F : FunD K x qual params body scope dvs kws f fd) (F' : FunD K x qual params body scope dvs kws f fd') : fd = fd' := by
  obtain ⟨_, _, _, _, _, _, _, _, _, _, _, lk, _⟩ := F.ex
  obtain ⟨_, _, _, _, _, _, _, _, _, _, _, lk', _⟩ := F'.ex
  rw [lk] at lk'
  injection lk' with e
  injection e with _ _ e
  injection e
end DV
namespace DV
open PySem PySem.Spec PyProof.Rows L2
theorem addt_ok {α : Type} (a : α) (ρ S : List Sl) (t t' : Bool) : (Res.ok a ρ S t').addt t = .ok a ρ S (t || t') := rfl
def pickM {α : Type} (k : Bool) (a b : M α) : M α := fun ρ S => if k = true then a ρ S else b ρ S
theorem pickM_t {α : Type} (a b : M α) (ρ S : List Sl) : pickM true a b ρ S = a ρ S := rfl
theorem pickM_f {α : Type} (a b : M α) (ρ S : List Sl) : pickM false a b ρ S = b ρ S := rfl
def nameR (i : Nat) (ρ S : List Sl) : Option Sl → Res Rv
  | some (.val d) => .ok (.d d) ρ S false
  | some .emp => .bad
  | some _ => .ok (.env i) ρ S false
  | none => .bad
theorem ap_name (i : Nat) (ρ S : List Sl) : cName i ρ S = nameR i ρ S ρ[i]? := by
  unfold cName nameR
  cases ρ[i]? with
  | none => rfl
  | some s => cases s <;> rfl
theorem nameR_val (i : Nat) (ρ S : List Sl) (d : D) : nameR i ρ S (some (.val d)) = .ok (.d d) ρ S false := rfl
theorem nameR_lst (i : Nat) (ρ S : List Sl) (d : List D) : nameR i ρ S (some (.lst d)) = .ok (.env i) ρ S false := rfl
theorem ap_C (d : D) (ρ S : List Sl) : cC d ρ S = .ok (.d d) ρ S false := rfl
theorem cont_int (ρ S : List Sl) (i : Int) : cont ρ S (.d (.int i)) = some (.int i) := rfl
theorem cont_bl (ρ S : List Sl) (i : Bool) : cont ρ S (.d (.bl i)) = some (.bl i) := rfl
theorem cont_str (ρ S : List Sl) (i : Str) : cont ρ S (.d (.str i)) = some (.str i) := rfl
theorem cont_non (ρ S : List Sl) : cont ρ S (.d .non) = some .non := rfl
theorem cont_ty (ρ S : List Sl) (n : String) : cont ρ S (.d (.ty n)) = some (.ty n) := rfl
theorem cont_lst (ρ S : List Sl) (n) : cont ρ S (.d (.lst n)) = some (.lst n) := rfl
theorem cont_kl (ρ S : List Sl) (n) : cont ρ S (.d (.kl n)) = some (.kl n) := rfl
theorem cont_tup (ρ S : List Sl) (n) : cont ρ S (.d (.tup n)) = some (.tup n) := rfl
theorem cont_kt (ρ S : List Sl) (n) : cont ρ S (.d (.kt n)) = some (.kt n) := rfl
theorem cont_ob0 (ρ S : List Sl) (xs : List D) : cont ρ (.lst xs :: S) (.d (.ob 0)) = some (.lst xs) := rfl
theorem cont_fr (ρ S : List Sl) (s : Sl) : cont ρ S (.fr s) = s.rd := rfl
theorem cont_env (ρ S : List Sl) (i : Nat) : cont ρ S (.env i) = (ρ[i]?).bind Sl.rd := rfl
theorem rd_lst (xs : List D) : Sl.rd (.lst xs) = some (.lst xs) := rfl
theorem obind_some {α β : Type} (a : α) (f : α → Option β) : (some a).bind f = f a := rfl
theorem toD_d (d : D) (ρ S : List Sl) : toD (.d d) ρ S = .ok d ρ S false := rfl
theorem toD_fr (s : Sl) (ρ S : List Sl) : toD (.fr s) ρ S = .ok s.frz ρ S false := rfl
theorem frz_lst (xs : List D) : Sl.frz (.lst xs) = .lst xs := by simp [Sl.frz]
theorem ap_D (c : M Rv) (ρ S : List Sl) : cD c ρ S = (c ρ S).bind toD := rfl
def two (g : D → D → Option Rv) (a b : Option D) (ρ S : List Sl) : Res Rv := match a, b with
  | some x, some y => lift (g x y) ρ S
  | _, _ => .bad
def bin2 (g : D → D → Option Rv) (ra rb : Rv) : M Rv := fun ρ S => two g (cont ρ S ra) (cont ρ S rb) ρ S
def bin1 (g : D → D → Option Rv) (cb : M Rv) (ra : Rv) : M Rv := fun ρ S => (cb ρ S).bind (bin2 g ra)
theorem ap_bin (g : D → D → Option Rv) (ca cb : M Rv) (ρ S : List Sl) : cBin g ca cb ρ S = (ca ρ S).bind (bin1 g cb) := rfl
theorem ap_bin1 (g : D → D → Option Rv) (cb : M Rv) (ra : Rv) (ρ S : List Sl) : bin1 g cb ra ρ S = (cb ρ S).bind (bin2 g ra) := rfl
theorem ap_bin2 (g : D → D → Option Rv) (ra rb : Rv) (ρ S : List Sl) : bin2 g ra rb ρ S = two g (cont ρ S ra) (cont ρ S rb) ρ S := rfl
theorem two_ok (g : D → D → Option Rv) (x y : D) (ρ S : List Sl) : two g (some x) (some y) ρ S = lift (g x y) ρ S := rfl
theorem lift_some (r : Rv) (ρ S : List Sl) : lift (some r) ρ S = .ok r ρ S false := rfl
def negR (o : Option D) (ρ S : List Sl) : Res Rv := match o with
  | some (.int i) => .ok (.d (.int (-i))) ρ S false
  | _ => .bad
def neg1 (r : Rv) : M Rv := fun ρ S => negR (cont ρ S r) ρ S
theorem ap_neg (c : M Rv) (ρ S : List Sl) : cNeg c ρ S = (c ρ S).bind neg1 := rfl
theorem ap_neg1 (r : Rv) (ρ S : List Sl) : neg1 r ρ S = negR (cont ρ S r) ρ S := rfl
theorem negR_ok (i : Int) (ρ S : List Sl) : negR (some (.int i)) ρ S = .ok (.d (.int (-i))) ρ S false := rfl
def consT {α : Type} (d : α) (ds : List α) : M (List α) := fun ρ S => .ok (d :: ds) ρ S false
def cons1 {α : Type} (cs : M (List α)) (d : α) : M (List α) := fun ρ S => (cs ρ S).bind (consT d)
theorem ap_nilD (ρ S : List Sl) : cNilD ρ S = .ok [] ρ S false := rfl
theorem ap_consD (c : M Rv) (cs : M (List D)) (ρ S : List Sl) : cConsD c cs ρ S = (cD c ρ S).bind (cons1 cs) := rfl
theorem ap_cons1 {α : Type} (cs : M (List α)) (d : α) (ρ S : List Sl) : cons1 cs d ρ S = (cs ρ S).bind (consT d) := rfl
theorem ap_consT {α : Type} (d : α) (ds : List α) (ρ S : List Sl) : consT d ds ρ S = .ok (d :: ds) ρ S false := rfl
theorem ap_nilR (ρ S : List Sl) : cNilR ρ S = .ok [] ρ S false := rfl
theorem ap_consR (c : M Rv) (cs : M (List Rv)) (ρ S : List Sl) : cConsR c cs ρ S = (c ρ S).bind (cons1 cs) := rfl
theorem conts_nil (ρ S : List Sl) : conts ρ S [] = some [] := rfl
def cons2 : Option D → Option (List D) → Option (List D)
  | some d, some ds => some (d :: ds)
  | _, _ => none
theorem conts_cons (ρ S : List Sl) (r : Rv) (rs : List Rv) : conts ρ S (r :: rs) = cons2 (cont ρ S r) (conts ρ S rs) := by
  unfold cons2
  rw [conts]
  all_goals (cases cont ρ S r <;> cases conts ρ S rs <;> rfl)
theorem cons2_some (d : D) (ds : List D) : cons2 (some d) (some ds) = some (d :: ds) := rfl
def one (g : List D → Option Rv) (ds : Option (List D)) (ρ S : List Sl) : Res Rv := match ds with
  | some ds => lift (g ds) ρ S
  | none => .bad
def blt1 (g : List D → Option Rv) (rs : List Rv) : M Rv := fun ρ S => one g (conts ρ S rs) ρ S
theorem ap_blt (g : List D → Option Rv) (cs : M (List Rv)) (ρ S : List Sl) : cBlt g cs ρ S = (cs ρ S).bind (blt1 g) := rfl
theorem ap_blt1 (g : List D → Option Rv) (rs : List Rv) (ρ S : List Sl) : blt1 g rs ρ S = one g (conts ρ S rs) ρ S := rfl
theorem one_ok (g : List D → Option Rv) (ds : List D) (ρ S : List Sl) : one g (some ds) ρ S = lift (g ds) ρ S := rfl
def tup1 (ds : List D) : M Rv := fun ρ S => if ds.length ≤ sizeLine then .ok (.d (.tup ds)) ρ S false else .bad
theorem ap_tup (cs : M (List D)) (ρ S : List Sl) : cTup cs ρ S = (cs ρ S).bind tup1 := rfl
theorem tup1_ok {ds : List D} {ρ S : List Sl} (h : ds.length ≤ sizeLine) : tup1 ds ρ S = .ok (.d (.tup ds)) ρ S false := if_pos h
def lst1 (ds : List D) : M Rv := fun ρ S => if ds.length ≤ sizeLine then .ok (.fr (.lst ds)) ρ S false else .bad
theorem ap_lst (cs : M (List D)) (ρ S : List Sl) : cLst cs ρ S = (cs ρ S).bind lst1 := rfl
theorem lst1_ok {ds : List D} {ρ S : List Sl} (h : ds.length ≤ sizeLine) : lst1 ds ρ S = .ok (.fr (.lst ds)) ρ S false := if_pos h
def callR (m : List D → List Sl → Res Rv) (n j : Nat) (gD : List D → List D → List D) (ds es : List D) (ρ S : List Sl) : Res Rv := if ds.length = n ∧ es.length = j then (m (gD ds es) S).at ρ else .bad
def call1 (m : List D → List Sl → Res Rv) (n j : Nat) (gD : List D → List D → List D) (ks : M (List D)) (ds : List D) : M Rv := fun ρ S => (ks ρ S).bind (callR m n j gD ds)
theorem ap_call (m : List D → List Sl → Res Rv) (n j : Nat) (gD : List D → List D → List D) (cs ks : M (List D)) (ρ S : List Sl) : cCall m n j gD cs ks ρ S = (cs ρ S).bind (call1 m n j gD ks) := rfl
theorem ap_call1 (m : List D → List Sl → Res Rv) (n j : Nat) (gD : List D → List D → List D) (ks : M (List D)) (ds : List D) (ρ S : List Sl) : call1 m n j gD ks ds ρ S = (ks ρ S).bind (callR m n j gD ds) := rfl
theorem callR_ok {m : List D → List Sl → Res Rv} {n j : Nat} {gD : List D → List D → List D} {ds es : List D} {ρ S : List Sl} (h1 : ds.length = n) (h2 : es.length = j) : callR m n j gD ds es ρ S = (m (gD ds es) S).at ρ := if_pos ⟨h1, h2⟩
theorem at_ok {α : Type} (ρ ρ' S : List Sl) (r : α) (t : Bool) : (Res.ok r ρ' S t).at ρ = .ok r ρ S false := rfl
def tstR (r : Rv) (ρ S : List Sl) : Res Bool := match r with
  | .d (.bl b) => .ok b ρ S false
  | _ => .bad
theorem ap_tst (c : M Rv) (ρ S : List Sl) : cTst c ρ S = (c ρ S).bind tstR := rfl
theorem tstR_ok (b : Bool) (ρ S : List Sl) : tstR (.d (.bl b)) ρ S = .ok b ρ S false := rfl
def truR (o : Option Bool) (ρ S : List Sl) : Res Bool := match o with
  | some b => .ok b ρ S false
  | none => .bad
def tru1 (r : Rv) : M Bool := fun ρ S => truR ((cont ρ S r).bind truD) ρ S
theorem ap_tru (c : M Rv) (ρ S : List Sl) : cTru c ρ S = (c ρ S).bind tru1 := rfl
theorem ap_tru1 (r : Rv) (ρ S : List Sl) : tru1 r ρ S = truR ((cont ρ S r).bind truD) ρ S := rfl
theorem truR_ok (b : Bool) (ρ S : List Sl) : truR (some b) ρ S = .ok b ρ S false := rfl
theorem truD_bl (b : Bool) : truD (.bl b) = some b := rfl
def notR (b : Bool) : M Bool := fun ρ S => .ok (!b) ρ S false
def okB (b : Bool) : M Bool := fun ρ S => .ok b ρ S false
theorem ap_okB (b : Bool) (ρ S : List Sl) : okB b ρ S = .ok b ρ S false := rfl
theorem ap_notB (c : M Bool) (ρ S : List Sl) : cNotB c ρ S = (c ρ S).bind notR := rfl
theorem ap_notR (b : Bool) (ρ S : List Sl) : notR b ρ S = .ok (!b) ρ S false := rfl
def andB1 (d : M Bool) (b : Bool) : M Bool := pickM b d (okB false)
theorem ap_andB (c d : M Bool) (ρ S : List Sl) : cAndB c d ρ S = (c ρ S).bind (andB1 d) := rfl
theorem ap_andB1 (d : M Bool) (b : Bool) (ρ S : List Sl) : andB1 d b ρ S = pickM b d (okB false) ρ S := rfl
def orB1 (d : M Bool) (b : Bool) : M Bool := pickM b (okB true) d
theorem ap_orB (c d : M Bool) (ρ S : List Sl) : cOrB c d ρ S = (c ρ S).bind (orB1 d) := rfl
theorem ap_orB1 (d : M Bool) (b : Bool) (ρ S : List Sl) : orB1 d b ρ S = pickM b (okB true) d ρ S := rfl
def seqR (b : M Fl) (r : Res Fl) : Res Fl := match r with
  | .ok .nx ρ S _ => b ρ S
  | r => r
theorem ap_seq (a b : M Fl) (ρ S : List Sl) : cSeq a b ρ S = seqR b (a ρ S) := by
  unfold cSeq seqR
  cases a ρ S with
  | ok f ρ1 S1 t => cases f <;> rfl
  | ex _ _ _ => rfl
  | bad => rfl
theorem seqR_nx (b : M Fl) (ρ S : List Sl) (t : Bool) : seqR b (.ok .nx ρ S t) = b ρ S := rfl
theorem seqR_rt (b : M Fl) (ρ S : List Sl) (t : Bool) (r : Rv) : seqR b (.ok (.rt r) ρ S t) = .ok (.rt r) ρ S t := rfl
theorem ap_nx (ρ S : List Sl) : cNx ρ S = .ok .nx ρ S false := rfl
def ifS1 (a b : M Fl) (k : Bool) : M Fl := pickM k a b
theorem ap_ifS (t : M Bool) (a b : M Fl) (ρ S : List Sl) : cIfS t a b ρ S = (t ρ S).bind (ifS1 a b) := rfl
theorem ap_ifS1 (a b : M Fl) (k : Bool) (ρ S : List Sl) : ifS1 a b k ρ S = pickM k a b ρ S := rfl
def rtR (r : Rv) : M Fl := fun ρ S => .ok (.rt r) ρ S false
def ret1 (r : Rv) : M Fl := fun ρ S => (outR r ρ S).bind rtR
theorem ap_ret (c : M Rv) (ρ S : List Sl) : cRet c ρ S = (c ρ S).bind ret1 := rfl
theorem ap_ret1 (r : Rv) (ρ S : List Sl) : ret1 r ρ S = (outR r ρ S).bind rtR := rfl
theorem ap_rtR (r : Rv) (ρ S : List Sl) : rtR r ρ S = .ok (.rt r) ρ S false := rfl
theorem outR_d (d : D) (ρ S : List Sl) : outR (.d d) ρ S = .ok (.d d) ρ S false := rfl
theorem outR_fr (s : Sl) (ρ S : List Sl) : outR (.fr s) ρ S = .ok (.fr s) ρ S false := rfl
def setR (i : Nat) (d : D) (ρ S : List Sl) : Res Fl := if i < ρ.length then .ok .nx (ρ.set i (.val d)) S false else .bad
def set1 (i : Nat) (r : Rv) : M Fl := fun ρ S => (toD r ρ S).bind (setR i)
theorem ap_set (i : Nat) (c : M Rv) (ρ S : List Sl) : cSet false i c ρ S = (c ρ S).bind (set1 i) := rfl
theorem ap_set1 (i : Nat) (r : Rv) (ρ S : List Sl) : set1 i r ρ S = (toD r ρ S).bind (setR i) := rfl
theorem setR_ok (i : Nat) (d : D) (ρ S : List Sl) (h : i < ρ.length) : setR i d ρ S = .ok .nx (ρ.set i (.val d)) S false := if_pos h
def putR (g : Sl → D → D → Option Sl) (d : D) (ro : Rv) (a : Option Sl) (b : Option D) (ρ S : List Sl) : Res Fl := match a, b with
  | some s, some k => (match g s k d with
    | some s' => .ok .nx (putP ro s' ρ S).1 (putP ro s' ρ S).2 false
    | none => .bad)
  | _, _ => .bad
def put3 (g : Sl → D → D → Option Sl) (d : D) (ro ri : Rv) : M Fl := fun ρ S => putR g d ro (getP ro ρ S) (cont ρ S ri) ρ S
def put2 (g : Sl → D → D → Option Sl) (ci : M Rv) (d : D) (ro : Rv) : M Fl := fun ρ S => (ci ρ S).bind (put3 g d ro)
def put1 (g : Sl → D → D → Option Sl) (co ci : M Rv) (d : D) : M Fl := fun ρ S => (co ρ S).bind (put2 g ci d)
theorem ap_put (g : Sl → D → D → Option Sl) (c co ci : M Rv) (ρ S : List Sl) : cPut g c co ci ρ S = (cD c ρ S).bind (put1 g co ci) := rfl
theorem ap_put1 (g : Sl → D → D → Option Sl) (co ci : M Rv) (d : D) (ρ S : List Sl) : put1 g co ci d ρ S = (co ρ S).bind (put2 g ci d) := rfl
theorem ap_put2 (g : Sl → D → D → Option Sl) (ci : M Rv) (d : D) (ro : Rv) (ρ S : List Sl) : put2 g ci d ro ρ S = (ci ρ S).bind (put3 g d ro) := rfl
theorem ap_put3 (g : Sl → D → D → Option Sl) (d : D) (ro ri : Rv) (ρ S : List Sl) : put3 g d ro ri ρ S = putR g d ro (getP ro ρ S) (cont ρ S ri) ρ S := rfl
theorem getP_ob0 (ρ S : List Sl) (xs : List D) : getP (.d (.ob 0)) ρ (.lst xs :: S) = some (.lst xs) := rfl
theorem putR_lst0 {xs : List D} {i : Int} {d : D} {ρ S : List Sl} {j : Nat} (h : ixN xs.length i = some j) : putR stS d (.d (.ob 0)) (some (.lst xs)) (some (.int i)) ρ (.lst xs :: S) = .ok .nx ρ (.lst (xs.set j d) :: S) false := by
  simp [putR, stS, stL, h, putP]
theorem ev_add_int (a b : Int) : oAdd (.int a) (.int b) = some (.d (.int (a + b))) := rfl
theorem ev_sub_int (a b : Int) : oSub (.int a) (.int b) = some (.d (.int (a - b))) := rfl
theorem ev_mul_r {a b : Int} (h : b.natAbs < 2 ^ 64) : oMul (.int a) (.int b) = some (.d (.int (a * b))) := by
  simp [oMul, oMulI, oInt, h]
theorem ev_mod_int {a b : Int} (h : 0 < b) : oMod (.int a) (.int b) = some (.d (.int (a % b))) := by
  simp [oMod, oInt, h]
theorem ev_fdiv_int {a b : Int} (h : 0 < b) (h2 : b < 1152921504606846976) : oFdiv (.int a) (.int b) = some (.d (.int (a / b))) := by
  simp [oFdiv, oInt, h, h2]
theorem ev_pow_int {a b : Int} (h : 0 ≤ b) (h1 : b ≤ 1000000) (h2 : a.natAbs < 2 ^ 64) : oPow (.int a) (.int b) = some (.d (.int (a ^ b.toNat))) := by
  simp [oPow, oInt, h, h1, h2]
theorem ev_lt_int (a b : Int) : oLt (.int a) (.int b) = some (.d (.bl (decide (a < b)))) := rfl
theorem ev_le_int (a b : Int) : oLe (.int a) (.int b) = some (.d (.bl (decide (a ≤ b)))) := rfl
theorem ev_gt_int (a b : Int) : oGt (.int a) (.int b) = some (.d (.bl (decide (b < a)))) := rfl
theorem ev_ge_int (a b : Int) : oGe (.int a) (.int b) = some (.d (.bl (decide (b ≤ a)))) := rfl
theorem vint_eq (a b : Int) : decide (V.int a = V.int b) = decide (a = b) := by
  by_cases h : a = b
  · subst h; simp
  · have h2 : ¬ V.int a = V.int b := fun z => h (by cases z; rfl)
    simp [h, h2]
theorem ev_eq_int (a b : Int) : oEq false (.int a) (.int b) = some (.d (.bl (decide (a = b)))) := by
  show some (Rv.d (.bl (false != decide (V.int a = V.int b)))) = _
  rw [vint_eq]
  simp
theorem ev_ne_int (a b : Int) : oEq true (.int a) (.int b) = some (.d (.bl (!decide (a = b)))) := by
  show some (Rv.d (.bl (true != decide (V.int a = V.int b)))) = _
  rw [vint_eq]
  simp
theorem atI_nn {α : Type} {xs : List α} {i : Int} (h : 0 ≤ i) : atI xs i = xs[i.toNat]? := by
  unfold atI ixN
  rw [if_pos h]
  split
  · rfl
  · rename_i h2
    rw [List.getElem?_eq_none (by omega)]
    rfl
theorem ev_get_lst (xs : List D) (i : Int) : oGet (.lst xs) (.int i) = (atI xs i).map .d := by
  show ((atI xs i).map Rv.d).or none = _
  cases atI xs i <;> rfl
theorem ev_get_tup (xs : List D) (i : Int) : oGet (.tup xs) (.int i) = (atI xs i).map .d := by
  show ((atI xs i).map Rv.d).or none = _
  cases atI xs i <;> rfl
theorem omap_some {α β : Type} (a : α) (f : α → β) : (some a).map f = some (f a) := rfl
theorem ev_len_lst (xs : List D) : gLen [.lst xs] = some (.d (.int xs.length)) := rfl
theorem ev_gint_int (i : Int) : gInt [.int i] = some (.d (.int i)) := rfl
theorem ev_gabs_int (i : Int) : gAbs [.int i] = some (.d (.int (if i < 0 then -i else i))) := rfl
theorem ixN_nn {n : Nat} {i : Int} (h : 0 ≤ i) (h2 : i < n) : ixN n i = some i.toNat := by
  unfold ixN
  rw [if_pos h, if_pos h2]
theorem putR_at {xs : List D} {i : Int} {d : D} {ρ S : List Sl} (h : 0 ≤ i) (h2 : i.toNat < xs.length) : putR stS d (.d (.ob 0)) (some (.lst xs)) (some (.int i)) ρ (.lst xs :: S) = .ok .nx ρ (.lst (xs.set i.toNat d) :: S) false :=
  putR_lst0 (ixN_nn h (by omega))
theorem endM_rt (r : Rv) (ρ S : List Sl) (t : Bool) : endM (.ok (.rt r) ρ S t) = .ok r [] S false := rfl
theorem endM_nx (ρ S : List Sl) (t : Bool) : endM (.ok .nx ρ S t) = .ok (.d .non) [] S false := rfl
theorem ap_def (n : Nat) (c : M Fl) (ds : List D) (S : List Sl) : defM n c ds S = endM (c (env0 n ds) S) := rfl
end DV
namespace DV
open PySem PySem.Spec PyProof.Rows L2
local macro_rules
  | `(tactic| simp_arith [$ts,*]) => `(tactic| simp only [ap_def, env0, List.map_cons, List.map_nil, List.length_cons, List.length_nil, List.replicate, Nat.reduceAdd, Nat.reduceSub, List.cons_append, List.nil_append,
    ap_seq, ap_put, ap_D, ap_bin, ap_name, List.getElem?_cons_zero, List.getElem?_cons_succ, nameR_val, nameR_lst, Res.bind_ok, ap_bin1, ap_C, ap_bin2, cont_ob0, cont_int, cont_bl, cont_str, cont_non, cont_ty, cont_lst, cont_kl, cont_tup, cont_kt, cont_fr, cont_env, rd_lst, obind_some,
    two_ok, ev_get_lst, ev_get_tup, atI_nn, Int.reduceLE, Int.reduceToNat, omap_some, lift_some, addt_ok, Bool.or_false, Bool.or_self, ev_add_int, ev_sub_int, toD_d, toD_fr, frz_lst, ap_put1, ap_put2, ap_put3, getP_ob0, putR_at, Int.reduceLT, List.set_cons_succ, List.set_cons_zero,
    seqR_nx, ap_ifS, ap_andB, ap_orB, ap_notB, ap_notR, ap_tst, ev_eq_int, ev_ne_int, tstR_ok, ap_andB1, ap_orB1, decide_false, decide_true, Bool.not_true, Bool.not_false, pickM_f, pickM_t, ap_okB, ap_ifS1, ap_nx, ev_gt_int, ev_ge_int, ev_lt_int, ev_le_int,
    ap_set, ap_set1, setR_ok, ap_blt, ap_consR, ap_nilR, ap_consD, ap_nilD, ap_cons1, ap_consT, ap_blt1, conts_cons, conts_nil, cons2_some, one_ok, ev_gint_int, ev_gabs_int, ev_len_lst, ev_mod_int, ev_fdiv_int, ap_ret, ap_ret1, outR_d, outR_fr, ap_rtR, seqR_rt, endM_rt, endM_nx, Nat.reduceLT,
    ap_call, ap_call1, at_ok, ap_tup, ap_lst, ap_tru, ap_tru1, truR_ok, truD_bl, ap_neg, ap_neg1, negR_ok, $ts,*])
def drawC : M Fl := (cSeq (cPut stS (cBin oAdd (cBin oGet (cName 0) (cC (.int 4))) (cC (.int 1))) (cName 0) (cC (.int 4)))
    (cSeq (cIfS (cAndB (cTst (cBin (oEq false) (cBin oGet (cName 0) (cC (.int 2))) (cC (.int 0)))) (cTst (cBin oLt (cBin oGet (cName 0) (cC (.int 1))) (cBlt gLen (cConsR (cBin oGet (cName 0) (cC (.int 0))) cNilR))))) (cSeq (cSet false 2 (cBin oGet (cBin oGet (cName 0) (cC (.int 0))) (cBin oGet (cName 0) (cC (.int 1)))))
    (cSeq (cPut stS (cBin oAdd (cBin oGet (cName 0) (cC (.int 1))) (cC (.int 1))) (cName 0) (cC (.int 1)))
    (cIfS (cTst (cBin oGe (cBlt gAbs (cConsR (cName 2) cNilR)) (cBin oPow (cC (.int 10)) (cC (.int 18))))) (cPut stS (cBlt gAbs (cConsR (cName 2) cNilR)) (cName 0) (cC (.int 2))) (cSeq (cSet false 3 (cBin oAdd (cBin oMul (cBin oMod (cBlt gInt (cConsR (cName 2) cNilR)) (cC (.int 1000303))) (cC (.int 769))) (cC (.int 41))))
    (cPut stS (cBin oMod (cBlt gInt (cConsR (cBin oAdd (cBin oMul (cBin oGet (cName 0) (cC (.int 3))) (cC (.int 43789))) (cName 3)) cNilR)) (cC (.int 2147483629))) (cName 0) (cC (.int 3))))))) cNx)
    (cSeq (cIfS (cTst (cBin oGt (cBin oGet (cName 0) (cC (.int 2))) (cC (.int 0)))) (cSeq (cSet false 4 (cBin oMod (cBlt gInt (cConsR (cBin oGet (cName 0) (cC (.int 2))) cNilR)) (cName 1)))
    (cSeq (cPut stS (cBin oFdiv (cBin oGet (cName 0) (cC (.int 2))) (cName 1)) (cName 0) (cC (.int 2)))
    (cRet (cName 4)))) cNx)
    (cSeq (cSet false 5 (cBin oGet (cName 0) (cC (.int 3))))
    (cSeq (cSet false 6 (cBin oAdd (cBin oAdd (cBin oMul (cName 5) (cC (.int 49031))) (cBin oMul (cBin oGet (cName 0) (cC (.int 4))) (cC (.int 110023)))) (cC (.int 60037))))
    (cSeq (cPut stS (cBin oMod (cBlt gInt (cConsR (cBin oAdd (cBin oMul (cBin oMul (cName 5) (cName 5)) (cC (.int 17))) (cName 6)) cNilR)) (cC (.int 2147483587))) (cName 0) (cC (.int 3)))
    (cRet (cBin oMod (cBlt gInt (cConsR (cBin oAdd (cBin oFdiv (cBin oGet (cName 0) (cC (.int 3))) (cC (.int 73))) (cBin oMul (cBin oMod (cBlt gInt (cConsR (cBin oGet (cName 0) (cC (.int 3))) cNilR)) (cC (.int 8009))) (cC (.int 61)))) cNilR)) (cName 1)))))))))
def drawM : List D → List Sl → Res Rv := defM 7 drawC
def openC : M Fl := (cSeq (cSet false 1 (cC (.int 12025)))
    (cSeq (cFor (cIts (cSl oCut (cName 0) cNoP (cPart (cC (.int 63))))) (.nm 2) (cSet false 1 (cBin oMod (cBlt gInt (cConsR (cBin oAdd (cBin oAdd (cBin oMul (cName 1) (cC (.int 52361))) (cBin oMul (cBin oMod (cBlt gInt (cConsR (cName 2) cNilR)) (cC (.int 1000303))) (cC (.int 877)))) (cC (.int 37))) cNilR)) (cC (.int 2147483587)))))
    (cRet (cLst (cConsD (cBlt gList (cConsR (cSl oCut (cName 0) cNoP (cPart (cC (.int 63)))) cNilR)) (cConsD (cC (.int 0)) (cConsD (cC (.int 0)) (cConsD (cName 1) (cConsD (cC (.int 0)) cNilD)))))))))
def openM : List D → List Sl → Res Rv := defM 3 openC
abbrev bagL (xs : List Int) (p g m c : Int) : Sl := .lst [.lst (xs.map .int), .int p, .int g, .int m, .int c]
def Bag (b : Sl) : Prop := ∃ xs p g m c, b = bagL xs p g m c ∧ 0 ≤ p ∧ 0 ≤ g ∧ 0 ≤ m ∧ m < 2147483648
section
variable (xs : List Int) (p g m c n : Int) (rest : List Sl)
theorem draw_hi (hn : 0 < n) (hn2 : n < 1152921504606846976) (hg : 0 < g) : drawM [.ob 0, .int n] (bagL xs p g m c :: rest) = .ok (.d (.int (g % n))) [] (bagL xs p (g / n) m (c + 1) :: rest) false := by
  have hg0 : ¬ g = 0 := by omega
  simp_arith [drawM, drawC, bagL, hg0, hg, hn, hn2]
theorem pow18 : oPow (.int 10) (.int 18) = some (.d (.int 1000000000000000000)) := by
  rw [ev_pow_int (by decide) (by decide) (by decide)]
  rfl
theorem draw_big (x : Int) (hx : xs[p.toNat]? = some x) (hp : 0 ≤ p) (hp2 : p < xs.length) (hn : 0 < n) (hn2 : n < 1152921504606846976) (hb : 1000000000000000000 ≤ (if x < 0 then -x else x)) :
    drawM [.ob 0, .int n] (bagL xs p 0 m c :: rest) = .ok (.d (.int ((if x < 0 then -x else x) % n))) [] (bagL xs (p + 1) ((if x < 0 then -x else x) / n) m (c + 1) :: rest) false := by
  have h0 : ¬ (if x < 0 then -x else x) = 0 := by omega
  have h1 : 0 < (if x < 0 then -x else x) := by omega
  simp_arith [drawM, drawC, bagL, hn, hn2, pow18, List.length_map, hp2, hp, List.getElem?_map, hx, hb, h1, Option.map_some]
abbrev drop_ (m c : Int) : Int := (m * m * 17 + (m * 49031 + c * 110023 + 60037)) % 2147483587
theorem draw_lo (hp2 : ¬ p < xs.length) (hm : 0 ≤ m) (hm2 : m < 2147483648) (hn : 0 < n) (hn2 : n < 1152921504606846976) :
    drawM [.ob 0, .int n] (bagL xs p 0 m c :: rest) = .ok (.d (.int ((drop_ m (c + 1) / 73 + drop_ m (c + 1) % 8009 * 61) % n))) [] (bagL xs p 0 (drop_ m (c + 1)) (c + 1) :: rest) false := by
  have h17 : m.natAbs < 2 ^ 64 := by omega
  have e : ∀ a k : Int, k.natAbs < 2 ^ 64 → oMul (.int a) (.int k) = some (.d (.int (a * k))) := fun a k h => ev_mul_r h
  simp_arith [drawM, drawC, bagL, hn, hn2, List.length_map, hp2, ev_mul_r h17, e _ 17 (by decide), e _ 49031 (by decide), e _ 110023 (by decide), e _ 61 (by decide)]
abbrev mix_ (m x : Int) : Int := (m * 43789 + (x % 1000303 * 769 + 41)) % 2147483629
theorem draw_sm (x : Int) (hx : xs[p.toNat]? = some x) (hp : 0 ≤ p) (hp2 : p < xs.length) (hn : 0 < n) (hn2 : n < 1152921504606846976) (hb : ¬ 1000000000000000000 ≤ (if x < 0 then -x else x)) :
    drawM [.ob 0, .int n] (bagL xs p 0 m c :: rest) = .ok (.d (.int ((drop_ (mix_ m x) (c + 1) / 73 + drop_ (mix_ m x) (c + 1) % 8009 * 61) % n))) [] (bagL xs (p + 1) 0 (drop_ (mix_ m x) (c + 1)) (c + 1) :: rest) false := by iterate
  have h17 : (mix_ m x).natAbs < 2 ^ 64 := by
    unfold mix_
    omega
  have e : ∀ a k : Int, k.natAbs < 2 ^ 64 → oMul (.int a) (.int k) = some (.d (.int (a * k))) := fun a k h => ev_mul_r h
  have e2 := ev_mul_r (a := mix_ m x) (b := mix_ m x) h17
  unfold mix_ at e2
  simp_arith [drawM, drawC, bagL, hn, hn2, pow18, List.length_map, hp2, hp, List.getElem?_map, hx, hb, Option.map_some, e _ 17 (by decide), e _ 49031 (by decide), e _ 110023 (by decide), e _ 61 (by decide), e _ 769 (by decide), e _ 43789 (by decide), e2]
theorem Bag.draw {b : Sl} (h : Bag b) (hn : 0 < n) (hn2 : n < 1152921504606846976) : ∃ v b', 0 ≤ v ∧ v < n ∧ Bag b' ∧ ∀ rest, drawM [.ob 0, .int n] (b :: rest) = .ok (.d (.int v)) [] (b' :: rest) false := by iterate
  obtain ⟨xs, p, g, m, c, rfl, hp, hg, hm, hm2⟩ := h
  have nn : ∀ a : Int, 0 ≤ a % n ∧ a % n < n := fun a => ⟨Int.emod_nonneg _ (by omega), Int.emod_lt_of_pos _ hn⟩
  have dd : ∀ a : Int, 0 ≤ a → 0 ≤ a / n := fun a ha => Int.ediv_nonneg ha (by omega)
  by_cases hg0 : 0 < g
  · exact ⟨_, _, (nn _).1, (nn _).2, ⟨xs, p, g / n, m, c + 1, rfl, hp, dd _ hg, hm, hm2⟩, fun rest => draw_hi xs p g m c n rest hn hn2 hg0⟩
  · obtain rfl : g = 0 := by omega
    by_cases hp2 : p < xs.length
    · obtain ⟨x, hx⟩ : ∃ x, xs[p.toNat]? = some x := ⟨xs[p.toNat]'(by omega), List.getElem?_eq_getElem _⟩
      by_cases hb : 1000000000000000000 ≤ (if x < 0 then -x else x)
      · exact ⟨_, _, (nn _).1, (nn _).2, ⟨xs, p + 1, _, m, c + 1, rfl, by omega, dd _ (by omega), hm, hm2⟩, fun rest => draw_big xs p m c n rest x hx hp hp2 hn hn2 hb⟩
      · exact ⟨_, _, (nn _).1, (nn _).2, ⟨xs, p + 1, 0, _, c + 1, rfl, by omega, by omega, by unfold drop_; omega, by unfold drop_; omega⟩, fun rest => draw_sm xs p m c n rest x hx hp hp2 hn hn2 hb⟩
    · exact ⟨_, _, (nn _).1, (nn _).2, ⟨xs, p, 0, _, c + 1, rfl, hp, by omega, by unfold drop_; omega, by unfold drop_; omega⟩, fun rest => draw_lo xs p m c n rest hp2 hm hm2 hn hn2⟩
end
end DV
namespace DV
open PySem PySem.Spec PyProof.Rows L2
def forR (g : Tgt) (b : M Fl) (r : Res (List D)) : Res Fl := match r with
  | .ok ds ρ S _ => forM g b ds ρ S
  | .ex x ρ S => .ex x ρ S
  | .bad => .bad
theorem ap_for (ci : M (List D)) (g : Tgt) (b : M Fl) (ρ S : List Sl) : cFor ci g b ρ S = forR g b (ci ρ S) := by
  unfold cFor forR
  rfl
theorem forR_ok (g : Tgt) (b : M Fl) (ds : List D) (ρ S : List Sl) (t : Bool) : forR g b (.ok ds ρ S t) = forM g b ds ρ S := rfl
/-- no turn leaves the loop -/
theorem forM_nx {g : Tgt} {b : M Fl} (I : List Sl → List Sl → Prop) : ∀ (ds : List D) (ρ S : List Sl), (∀ d ∈ ds, ∀ ρ S, I ρ S → ∃ ρ1 ρ2 S2 t, bindT g d ρ = some ρ1 ∧ b ρ1 S = .ok .nx ρ2 S2 t ∧ I ρ2 S2) → I ρ S →
    ∃ ρ' S', forM g b ds ρ S = .ok .nx ρ' S' false ∧ I ρ' S'
  | [], ρ, S, _, i => ⟨ρ, S, rfl, i⟩
  | d :: ds, ρ, S, h, i => by
    obtain ⟨ρ1, ρ2, S2, t, e1, e2, i2⟩ := h d (by simp) ρ S i
    obtain ⟨ρ', S', e3, i3⟩ := forM_nx I ds ρ2 S2 (fun d hd => h d (by simp [hd])) i2
    refine ⟨ρ', S', ?_, i3⟩
    rw [forM]
    simp only [e1, e2]
    exact e3
def lcR (vs : List Nat) (g : Tgt) (t : M Bool) (c : M Rv) (r : Res (List D)) : Res Rv := match r with
  | .ok ds ρ1 S1 _ => (match compM vs g t c ds [] (wipeS ρ1 vs) S1 with
    | .ok acc ρ2 S2 _ => .ok (.fr (.lst acc)) ρ2 S2 true
    | _ => .bad)
  | .ex x ρ1 S1 => .ex x ρ1 S1
  | .bad => .bad
theorem ap_lc (ci : M (List D)) (vs : List Nat) (g : Tgt) (t : M Bool) (c : M Rv) (ρ S : List Sl) : cLc ci vs g t c ρ S = lcR vs g t c (ci ρ S) := by
  unfold cLc lcR
  rfl
def itsR (d : D) (ρ S : List Sl) : Res (List D) := match d.its with
  | some ds => .ok ds ρ S false
  | none => .bad
theorem ap_its (c : M Rv) (ρ S : List Sl) : cIts c ρ S = (cD c ρ S).bind itsR := rfl
theorem itsR_str (z : Str) (ρ S : List Sl) : itsR (.str z) ρ S = .ok (signsD z) ρ S false := rfl
theorem itsR_lst (xs : List D) (ρ S : List Sl) : itsR (.lst xs) ρ S = .ok xs ρ S false := rfl
theorem itsR_kl (xs : List D) (ρ S : List Sl) : itsR (.kl xs) ρ S = .ok xs ρ S false := rfl
theorem itsR_tup (xs : List D) (ρ S : List Sl) : itsR (.tup xs) ρ S = .ok xs ρ S false := rfl
def rng1R (ds : List D) (ρ S : List Sl) : Res (List D) := match ds with
  | [.int j] => if -(2 ^ 62) ≤ j ∧ j < 2 ^ 62 then .ok (rangeD 0 j.toNat) ρ S false else .bad
  | _ => .bad
theorem ap_rng1 (cs : M (List D)) (ρ S : List Sl) : cRng1 cs ρ S = (cs ρ S).bind rng1R := rfl
def rng2R (ds : List D) (ρ S : List Sl) : Res (List D) := match ds with
  | [.int i, .int j] => if -(2 ^ 62) ≤ i ∧ i < 2 ^ 62 ∧ -(2 ^ 62) ≤ j ∧ j < 2 ^ 62 then .ok (rangeD i (j - i).toNat) ρ S false else .bad
  | _ => .bad
theorem ap_rng2 (cs : M (List D)) (ρ S : List Sl) : cRng2 cs ρ S = (cs ρ S).bind rng2R := rfl
theorem bindT_nm {i : Nat} {d : D} {ρ : List Sl} (h : i < ρ.length) : bindT (.nm i) d ρ = some (ρ.set i (.val d)) := if_pos h
def part1 (r : Rv) : M (Option Int) := fun ρ S => match (cont ρ S r).bind partD with
  | some o => .ok o ρ S false
  | none => .bad
theorem ap_part (c : M Rv) (ρ S : List Sl) : cPart c ρ S = (c ρ S).bind part1 := rfl
theorem part1_int (i : Int) (ρ S : List Sl) : part1 (.d (.int i)) ρ S = .ok (some i) ρ S false := rfl
theorem ap_noP (ρ S : List Sl) : cNoP ρ S = .ok none ρ S false := rfl
def sl3 (g : D → Option Int → Option Int → Option Rv) (re : Rv) (lo hi : Option Int) : M Rv := fun ρ S => match cont ρ S re with
  | some d => lift (g d lo hi) ρ S
  | none => .bad
def sl2 (g : D → Option Int → Option Int → Option Rv) (ch : M (Option Int)) (re : Rv) (lo : Option Int) : M Rv := fun ρ S => (ch ρ S).bind (sl3 g re lo)
def sl1 (g : D → Option Int → Option Int → Option Rv) (cl ch : M (Option Int)) (re : Rv) : M Rv := fun ρ S => (cl ρ S).bind (sl2 g ch re)
theorem ap_sl (g : D → Option Int → Option Int → Option Rv) (ce : M Rv) (cl ch : M (Option Int)) (ρ S : List Sl) : cSl g ce cl ch ρ S = (ce ρ S).bind (sl1 g cl ch) := rfl
theorem ap_sl1 (g : D → Option Int → Option Int → Option Rv) (cl ch : M (Option Int)) (re : Rv) (ρ S : List Sl) : sl1 g cl ch re ρ S = (cl ρ S).bind (sl2 g ch re) := rfl
theorem ap_sl2 (g : D → Option Int → Option Int → Option Rv) (ch : M (Option Int)) (re : Rv) (lo : Option Int) (ρ S : List Sl) : sl2 g ch re lo ρ S = (ch ρ S).bind (sl3 g re lo) := rfl
theorem sl3_ok {g : D → Option Int → Option Int → Option Rv} {re : Rv} {lo hi : Option Int} {ρ S : List Sl} {d : D} (h : cont ρ S re = some d) : sl3 g re lo hi ρ S = lift (g d lo hi) ρ S := by
  unfold sl3
  rw [h]
theorem cut_kl (xs : List D) (lo hi : Option Int) : oCut (.kl xs) lo hi = some (.fr (.lst (cutD xs lo hi))) := rfl
theorem cut_lst (xs : List D) (lo hi : Option Int) : oCut (.lst xs) lo hi = some (.fr (.lst (cutD xs lo hi))) := rfl
theorem cut_str {z : Str} (h : z.length ≤ sizeLine) (lo hi : Option Int) : oCut (.str z) lo hi = some (.d (.str (cutS z lo hi))) := by
  show (none : Option Rv).or ((if z.length ≤ sizeLine then some (.d (.str (cutS z lo hi))) else none).or none) = _
  rw [if_pos h]
  rfl
def truK (o : Option Bool) (a b : M Rv) : M Rv := fun ρ S => match o with
  | some true => a ρ S
  | some false => b ρ S
  | none => .bad
def okR (r : Rv) : M Rv := fun ρ S => .ok r ρ S false
theorem ap_okR (r : Rv) (ρ S : List Sl) : okR r ρ S = .ok r ρ S false := rfl
theorem truK_t (a b : M Rv) (ρ S : List Sl) : truK (some true) a b ρ S = a ρ S := rfl
theorem truK_f (a b : M Rv) (ρ S : List Sl) : truK (some false) a b ρ S = b ρ S := rfl
def and1 (cb : M Rv) (ra : Rv) : M Rv := fun ρ S => truK ((cont ρ S ra).bind truD) cb (okR ra) ρ S
def or1 (cb : M Rv) (ra : Rv) : M Rv := fun ρ S => truK ((cont ρ S ra).bind truD) (okR ra) cb ρ S
theorem ap_and (ca cb : M Rv) (ρ S : List Sl) : cAnd ca cb ρ S = (ca ρ S).bind (and1 cb) := rfl
theorem ap_and1 (cb : M Rv) (ra : Rv) (ρ S : List Sl) : and1 cb ra ρ S = truK ((cont ρ S ra).bind truD) cb (okR ra) ρ S := rfl
theorem ap_or (ca cb : M Rv) (ρ S : List Sl) : cOr ca cb ρ S = (ca ρ S).bind (or1 cb) := rfl
theorem ap_or1 (cb : M Rv) (ra : Rv) (ρ S : List Sl) : or1 cb ra ρ S = truK ((cont ρ S ra).bind truD) (okR ra) cb ρ S := rfl
def notV (o : Option Bool) (ρ S : List Sl) : Res Rv := match o with
  | some b => .ok (.d (.bl (!b))) ρ S false
  | none => .bad
def not1 (ra : Rv) : M Rv := fun ρ S => notV ((cont ρ S ra).bind truD) ρ S
theorem ap_not (ca : M Rv) (ρ S : List Sl) : cNot ca ρ S = (ca ρ S).bind not1 := rfl
theorem ap_not1 (ra : Rv) (ρ S : List Sl) : not1 ra ρ S = notV ((cont ρ S ra).bind truD) ρ S := rfl
theorem notV_ok (b : Bool) (ρ S : List Sl) : notV (some b) ρ S = .ok (.d (.bl (!b))) ρ S false := rfl
theorem ap_sto (i : Nat) (c : M Rv) (ρ S : List Sl) : cSto i c ρ S = (c ρ S).bind (setSto i) := rfl
theorem setSto_ok' {i : Nat} {xs : List D} {ρ S : List Sl} (h : i < ρ.length) : setSto i (.fr (.lst xs)) ρ S = .ok .nx (ρ.set i (.val (.ob S.length))) (S ++ [.lst xs]) false := by
  unfold setSto
  simp only
  rw [if_pos ⟨h, rfl⟩]
end DV
namespace DV
open PySem PySem.Spec PyProof.Rows L2
theorem le_line {n : Nat} (h : n ≤ 1000) : n ≤ sizeLine := Nat.le_trans h (by decide)
local macro_rules
  | `(tactic| simp_arith [$ts,*]) => `(tactic| simp only [ap_def, env0, List.map_cons, List.map_nil, List.length_cons, List.length_nil, List.replicate, Nat.reduceAdd, Nat.reduceSub, List.cons_append, List.nil_append,
    ap_seq, ap_put, ap_D, ap_bin, ap_name, List.getElem?_cons_zero, List.getElem?_cons_succ, nameR_val, nameR_lst, Res.bind_ok, ap_bin1, ap_C, ap_bin2, cont_ob0, cont_int, cont_bl, cont_str, cont_non, cont_ty, cont_lst, cont_kl, cont_tup, cont_kt, cont_fr, cont_env, rd_lst, obind_some,
    two_ok, ev_get_lst, ev_get_tup, atI_nn, Int.reduceLE, Int.reduceToNat, omap_some, lift_some, addt_ok, Bool.or_false, Bool.or_self, ev_add_int, ev_sub_int, toD_d, toD_fr, frz_lst, ap_put1, ap_put2, ap_put3, getP_ob0, putR_at, Int.reduceLT, List.set_cons_succ, List.set_cons_zero,
    seqR_nx, ap_ifS, ap_andB, ap_orB, ap_notB, ap_notR, ap_tst, ev_eq_int, ev_ne_int, tstR_ok, ap_andB1, ap_orB1, decide_false, decide_true, Bool.not_true, Bool.not_false, pickM_f, pickM_t, ap_okB, ap_ifS1, ap_nx, ev_gt_int, ev_ge_int, ev_lt_int, ev_le_int,
    ap_set, ap_set1, setR_ok, ap_blt, ap_consR, ap_nilR, ap_consD, ap_nilD, ap_cons1, ap_consT, ap_blt1, conts_cons, conts_nil, cons2_some, one_ok, ev_gint_int, ev_gabs_int, ev_len_lst, ev_mod_int, ev_fdiv_int, ap_ret, ap_ret1, outR_d, outR_fr, ap_rtR, seqR_rt, endM_rt, endM_nx, Nat.reduceLT,
    ap_call, ap_call1, at_ok, ap_tup, ap_lst, ap_tru, ap_tru1, truR_ok, truD_bl, ap_neg, ap_neg1, negR_ok, ap_for, forR_ok, ap_its, itsR_str, itsR_lst, itsR_kl, itsR_tup, ap_rng1, ap_rng2, ap_part, part1_int, ap_noP, ap_sl, ap_sl1, ap_sl2, sl3_ok (cont_kl _ _ _), sl3_ok (cont_str _ _ _), sl3_ok (cont_lst _ _ _), cut_kl, cut_lst, ap_and, ap_and1, ap_or, ap_or1, truK_t, truK_f, ap_okR, ap_not, ap_not1, notV_ok, ap_sto, setSto_ok', ap_lc, lst1_ok, tup1_ok, le_line, Nat.reduceLeDiff, $ts,*])
theorem cut_ints (ns : List Int) (lo hi : Option Int) : ∃ xs : List Int, cutD (ns.map .int) lo hi = xs.map .int := by
  unfold cutD
  rw [← List.map_drop, ← List.map_take]
  exact ⟨_, rfl⟩
theorem ev_glist_lst (xs : List D) : gList [.lst xs] = some (.fr (.lst xs)) := rfl
theorem open_ok (ns : List Int) (S : List Sl) : ∃ b, Bag (.lst b) ∧ openM [.kl (ns.map .int)] S = .ok (.fr (.lst b)) [] S false := by iterate
  obtain ⟨xs, hx⟩ := cut_ints ns none (some 63)
  have e : ∀ a k : Int, k.natAbs < 2 ^ 64 → oMul (.int a) (.int k) = some (.d (.int (a * k))) := fun a k h => ev_mul_r h
  have loop : ∃ ρ' S', forM (.nm 2) (cSet false 1 (cBin oMod (cBlt gInt (cConsR (cBin oAdd (cBin oAdd (cBin oMul (cName 1) (cC (.int 52361))) (cBin oMul (cBin oMod (cBlt gInt (cConsR (cName 2) cNilR)) (cC (.int 1000303))) (cC (.int 877)))) (cC (.int 37))) cNilR)) (cC (.int 2147483587)))) (xs.map .int) [.val (.kl (ns.map .int)), .val (.int 12025), .emp] S = .ok .nx ρ' S' false ∧
      ∃ m s, ρ' = [.val (.kl (ns.map .int)), .val (.int m), s] ∧ S' = S ∧ 0 ≤ m ∧ m < 2147483648 := by
    refine forM_nx (fun ρ S' => ∃ m s, ρ = [.val (.kl (ns.map .int)), .val (.int m), s] ∧ S' = S ∧ 0 ≤ m ∧ m < 2147483648) _ _ _ ?_ ⟨12025, .emp, rfl, rfl, by decide, by decide⟩
    rintro d hd ρ S1 ⟨m, s, rfl, rfl, h1, h2⟩
    obtain ⟨x, hx, rfl⟩ := List.mem_map.mp hd
    refine ⟨_, _, _, _, bindT_nm (by simp), by (simp_arith [e _ 52361 (by decide), e _ 877 (by decide)]; rfl), _, _, rfl, rfl, ?_, ?_⟩
    · exact Int.emod_nonneg _ (by decide)
    · exact Int.lt_trans (Int.emod_lt_of_pos _ (by decide)) (by decide)
  obtain ⟨ρ', S', e1, m, s, rfl, rfl, h1, h2⟩ := loop
  refine ⟨[.lst (xs.map .int), .int 0, .int 0, .int m, .int 0], ⟨xs, 0, 0, m, 0, rfl, by decide, by decide, h1, h2⟩, ?_⟩
  simp_arith [openM, openC, hx, e1, ev_glist_lst]
def consO {α : Type} : Option α → List α → List α
  | some x, l => x :: l
  | none, l => l
theorem pick_nil {α : Type} (xs : List α) : pick [] xs = [] := rfl
theorem pick_cons {α : Type} (i : Nat) (is : List Nat) (xs : List α) : pick (i :: is) xs = consO xs[i]? (pick is xs) := by
  unfold pick
  rw [List.filterMap_cons]
  cases xs[i]? <;> rfl
theorem consO_some {α : Type} (x : α) (l : List α) : consO (some x) l = x :: l := rfl
abbrev cb2 : List D → List D → List D := fun ds es => pick [0, 1] (ds ++ es)
def ofC : M Fl := (cRet (cBin oGet (cName 1) (cCall drawM 2 0 cb2 (cConsD (cName 0) (cConsD (cBlt gLen (cConsR (cName 1) cNilR)) cNilD)) cNilD)))
def ofM : List D → List Sl → Res Rv := defM 2 ofC
theorem ev_len_str {z : Str} (h : z.length ≤ sizeLine) : gLen [.str z] = some (.d (.int z.length)) := by
  show (gLenS [.str z]).or _ = _
  unfold gLenS
  simp only
  rw [if_pos h]
  rfl
theorem Bag.of_lst {b : Sl} (h : Bag b) {ds : List D} (h0 : 0 < ds.length) (h1 : ds.length < 1000) : ∃ d b', d ∈ ds ∧ Bag b' ∧ ∀ rest, ofM [.ob 0, .lst ds] (b :: rest) = .ok (.d d) [] (b' :: rest) false := by
  obtain ⟨v, b', v0, v1, hb, e⟩ := h.draw (n := (ds.length : Int)) (by omega) (by omega)
  have hv : v.toNat < ds.length := by omega
  refine ⟨ds[v.toNat], b', List.getElem_mem hv, hb, fun rest => ?_⟩
  simp_arith [ofM, ofC, callR_ok, pick_cons, pick_nil, consO_some, e rest, v0, List.getElem?_eq_getElem hv, List.append_nil]
def mt3 (g : D → List D → Option Rv) (a : Option D) (b : Option (List D)) (ρ S : List Sl) : Res Rv := match a, b with
  | some d, some ds => lift (g d ds) ρ S
  | _, _ => .bad
def mt2 (g : D → List D → Option Rv) (ro : Rv) (rs : List Rv) : M Rv := fun ρ S => mt3 g (cont ρ S ro) (conts ρ S rs) ρ S
def mt1 (T : String) (g : D → List D → Option Rv) (cs : M (List Rv)) (ro : Rv) : M Rv := fun ρ S => match cont ρ S ro with
  | some d0 => if tyD T d0 = true then (cs ρ S).bind (mt2 g ro) else .bad
  | none => .bad
theorem ap_mt (T : String) (g : D → List D → Option Rv) (co : M Rv) (cs : M (List Rv)) (ρ S : List Sl) : cMt T g co cs ρ S = (co ρ S).bind (mt1 T g cs) := rfl
theorem mt1_str {g : D → List D → Option Rv} {cs : M (List Rv)} {z : Str} {ρ S : List Sl} : mt1 "str" g cs (.d (.str z)) ρ S = (cs ρ S).bind (mt2 g (.d (.str z))) := rfl
theorem ap_mt2 (g : D → List D → Option Rv) (ro : Rv) (rs : List Rv) (ρ S : List Sl) : mt2 g ro rs ρ S = mt3 g (cont ρ S ro) (conts ρ S rs) ρ S := rfl
theorem mt3_ok (g : D → List D → Option Rv) (d : D) (ds : List D) (ρ S : List Sl) : mt3 g (some d) (some ds) ρ S = lift (g d ds) ρ S := rfl
end DV
namespace DV
open PySem PySem.Spec PyProof.Rows L2
theorem isi_non_int (ow) : gIsi ow [.non, .ty "int"] = some (.d (.bl false)) := rfl
theorem isi_non_bool (ow) : gIsi ow [.non, .ty "bool"] = some (.d (.bl false)) := rfl
theorem isi_non_str (ow) : gIsi ow [.non, .ty "str"] = some (.d (.bl false)) := rfl
theorem isi_non_list (ow) : gIsi ow [.non, .ty "list"] = some (.d (.bl false)) := rfl
theorem isi_non_tuple (ow) : gIsi ow [.non, .ty "tuple"] = some (.d (.bl false)) := rfl
theorem isi_non_seq (ow) : gIsi ow [.non, .tup [.ty "list", .ty "tuple"]] = some (.d (.bl false)) := rfl
theorem isi_bl_int (ow) (a : Bool) : gIsi ow [(.bl a), .ty "int"] = some (.d (.bl true)) := rfl
theorem isi_bl_bool (ow) (a : Bool) : gIsi ow [(.bl a), .ty "bool"] = some (.d (.bl true)) := rfl
theorem isi_bl_str (ow) (a : Bool) : gIsi ow [(.bl a), .ty "str"] = some (.d (.bl false)) := rfl
theorem isi_bl_list (ow) (a : Bool) : gIsi ow [(.bl a), .ty "list"] = some (.d (.bl false)) := rfl
theorem isi_bl_tuple (ow) (a : Bool) : gIsi ow [(.bl a), .ty "tuple"] = some (.d (.bl false)) := rfl
theorem isi_bl_seq (ow) (a : Bool) : gIsi ow [(.bl a), .tup [.ty "list", .ty "tuple"]] = some (.d (.bl false)) := rfl
theorem isi_int_int (ow) (a : Int) : gIsi ow [(.int a), .ty "int"] = some (.d (.bl true)) := rfl
theorem isi_int_bool (ow) (a : Int) : gIsi ow [(.int a), .ty "bool"] = some (.d (.bl false)) := rfl
theorem isi_int_str (ow) (a : Int) : gIsi ow [(.int a), .ty "str"] = some (.d (.bl false)) := rfl
theorem isi_int_list (ow) (a : Int) : gIsi ow [(.int a), .ty "list"] = some (.d (.bl false)) := rfl
theorem isi_int_tuple (ow) (a : Int) : gIsi ow [(.int a), .ty "tuple"] = some (.d (.bl false)) := rfl
theorem isi_int_seq (ow) (a : Int) : gIsi ow [(.int a), .tup [.ty "list", .ty "tuple"]] = some (.d (.bl false)) := rfl
theorem isi_str_int (ow) (a : Str) : gIsi ow [(.str a), .ty "int"] = some (.d (.bl false)) := rfl
theorem isi_str_bool (ow) (a : Str) : gIsi ow [(.str a), .ty "bool"] = some (.d (.bl false)) := rfl
theorem isi_str_str (ow) (a : Str) : gIsi ow [(.str a), .ty "str"] = some (.d (.bl true)) := rfl
theorem isi_str_list (ow) (a : Str) : gIsi ow [(.str a), .ty "list"] = some (.d (.bl false)) := rfl
theorem isi_str_tuple (ow) (a : Str) : gIsi ow [(.str a), .ty "tuple"] = some (.d (.bl false)) := rfl
theorem isi_str_seq (ow) (a : Str) : gIsi ow [(.str a), .tup [.ty "list", .ty "tuple"]] = some (.d (.bl false)) := rfl
theorem isi_lst_int (ow) (a : List D) : gIsi ow [(.lst a), .ty "int"] = some (.d (.bl false)) := rfl
theorem isi_lst_bool (ow) (a : List D) : gIsi ow [(.lst a), .ty "bool"] = some (.d (.bl false)) := rfl
theorem isi_lst_str (ow) (a : List D) : gIsi ow [(.lst a), .ty "str"] = some (.d (.bl false)) := rfl
theorem isi_lst_list (ow) (a : List D) : gIsi ow [(.lst a), .ty "list"] = some (.d (.bl true)) := rfl
theorem isi_lst_tuple (ow) (a : List D) : gIsi ow [(.lst a), .ty "tuple"] = some (.d (.bl false)) := rfl
theorem isi_lst_seq (ow) (a : List D) : gIsi ow [(.lst a), .tup [.ty "list", .ty "tuple"]] = some (.d (.bl true)) := rfl
theorem isi_kl_int (ow) (a : List D) : gIsi ow [(.kl a), .ty "int"] = some (.d (.bl false)) := rfl
theorem isi_kl_bool (ow) (a : List D) : gIsi ow [(.kl a), .ty "bool"] = some (.d (.bl false)) := rfl
theorem isi_kl_str (ow) (a : List D) : gIsi ow [(.kl a), .ty "str"] = some (.d (.bl false)) := rfl
theorem isi_kl_list (ow) (a : List D) : gIsi ow [(.kl a), .ty "list"] = some (.d (.bl true)) := rfl
theorem isi_kl_tuple (ow) (a : List D) : gIsi ow [(.kl a), .ty "tuple"] = some (.d (.bl false)) := rfl
theorem isi_kl_seq (ow) (a : List D) : gIsi ow [(.kl a), .tup [.ty "list", .ty "tuple"]] = some (.d (.bl true)) := rfl
theorem isi_tup_int (ow) (a : List D) : gIsi ow [(.tup a), .ty "int"] = some (.d (.bl false)) := rfl
theorem isi_tup_bool (ow) (a : List D) : gIsi ow [(.tup a), .ty "bool"] = some (.d (.bl false)) := rfl
theorem isi_tup_str (ow) (a : List D) : gIsi ow [(.tup a), .ty "str"] = some (.d (.bl false)) := rfl
theorem isi_tup_list (ow) (a : List D) : gIsi ow [(.tup a), .ty "list"] = some (.d (.bl false)) := rfl
theorem isi_tup_tuple (ow) (a : List D) : gIsi ow [(.tup a), .ty "tuple"] = some (.d (.bl true)) := rfl
theorem isi_tup_seq (ow) (a : List D) : gIsi ow [(.tup a), .tup [.ty "list", .ty "tuple"]] = some (.d (.bl true)) := rfl
theorem isi_kt_int (ow) (a : List D) : gIsi ow [(.kt a), .ty "int"] = some (.d (.bl false)) := rfl
theorem isi_kt_bool (ow) (a : List D) : gIsi ow [(.kt a), .ty "bool"] = some (.d (.bl false)) := rfl
theorem isi_kt_str (ow) (a : List D) : gIsi ow [(.kt a), .ty "str"] = some (.d (.bl false)) := rfl
theorem isi_kt_list (ow) (a : List D) : gIsi ow [(.kt a), .ty "list"] = some (.d (.bl false)) := rfl
theorem isi_kt_tuple (ow) (a : List D) : gIsi ow [(.kt a), .ty "tuple"] = some (.d (.bl true)) := rfl
theorem isi_kt_seq (ow) (a : List D) : gIsi ow [(.kt a), .tup [.ty "list", .ty "tuple"]] = some (.d (.bl true)) := rfl
theorem isF_non : oIs false .non .non = some (.d (.bl true)) := rfl
theorem isX_non : oIs true .non .non = some (.d (.bl false)) := rfl
theorem isF_bl (a : Bool) : oIs false (.bl a) .non = some (.d (.bl false)) := rfl
theorem isX_bl (a : Bool) : oIs true (.bl a) .non = some (.d (.bl true)) := rfl
theorem isF_int (a : Int) : oIs false (.int a) .non = some (.d (.bl false)) := rfl
theorem isX_int (a : Int) : oIs true (.int a) .non = some (.d (.bl true)) := rfl
theorem isF_str (a : Str) : oIs false (.str a) .non = some (.d (.bl false)) := rfl
theorem isX_str (a : Str) : oIs true (.str a) .non = some (.d (.bl true)) := rfl
theorem isF_lst (a : List D) : oIs false (.lst a) .non = some (.d (.bl false)) := rfl
theorem isX_lst (a : List D) : oIs true (.lst a) .non = some (.d (.bl true)) := rfl
theorem isF_tup (a : List D) : oIs false (.tup a) .non = some (.d (.bl false)) := rfl
theorem isX_tup (a : List D) : oIs true (.tup a) .non = some (.d (.bl true)) := rfl
theorem isF_kt (a : List D) : oIs false (.kt a) .non = some (.d (.bl false)) := rfl
theorem isX_kt (a : List D) : oIs true (.kt a) .non = some (.d (.bl true)) := rfl
theorem isF_kl (a : List D) : oIs false (.kl a) .non = some (.d (.bl false)) := rfl
theorem isX_kl (a : List D) : oIs true (.kl a) .non = some (.d (.bl true)) := rfl
theorem vbl_eq (a b : Bool) : decide (V.bl a = V.bl b) = (a == b) := by cases a <;> cases b <;> simp
theorem vstr_eq (a b : Str) : decide (V.str a = V.str b) = decide (a = b) := by
  by_cases h : a = b
  · subst h; simp
  · have h2 : ¬ V.str a = V.str b := fun z => h (by cases z; rfl)
    simp [h, h2]
theorem ev_eq_bl (a b : Bool) : oEq false (.bl a) (.bl b) = some (.d (.bl (a == b))) := by
  show some (Rv.d (.bl (false != decide (V.bl a = V.bl b)))) = _
  rw [vbl_eq]
  simp
theorem ev_ne_bl (a b : Bool) : oEq true (.bl a) (.bl b) = some (.d (.bl (!(a == b)))) := by
  show some (Rv.d (.bl (true != decide (V.bl a = V.bl b)))) = _
  rw [vbl_eq]
  simp
theorem ev_eq_str (a b : Str) : oEq false (.str a) (.str b) = some (.d (.bl (decide (a = b)))) := by
  show some (Rv.d (.bl (false != decide (V.str a = V.str b)))) = _
  rw [vstr_eq]
  simp
theorem ev_len_tup (xs : List D) : gLen [.tup xs] = some (.d (.int xs.length)) := rfl
theorem ev_len_kt (xs : List D) : gLen [.kt xs] = some (.d (.int xs.length)) := rfl
local macro_rules
  | `(tactic| simp_arith [$ts,*]) => `(tactic| simp only [ap_def, env0, List.map_cons, List.map_nil, List.length_cons, List.length_nil, List.replicate, Nat.reduceAdd, Nat.reduceSub, List.cons_append, List.nil_append,
    ap_seq, ap_put, ap_D, ap_bin, ap_name, List.getElem?_cons_zero, List.getElem?_cons_succ, nameR_val, nameR_lst, Res.bind_ok, ap_bin1, ap_C, ap_bin2, cont_ob0, cont_int, cont_bl, cont_str, cont_non, cont_ty, cont_lst, cont_kl, cont_tup, cont_kt, cont_fr, cont_env, rd_lst, obind_some,
    two_ok, ev_get_lst, ev_get_tup, atI_nn, Int.reduceLE, Int.reduceToNat, omap_some, lift_some, addt_ok, Bool.or_false, Bool.or_self, ev_add_int, ev_sub_int, toD_d, toD_fr, frz_lst, ap_put1, ap_put2, ap_put3, getP_ob0, putR_at, Int.reduceLT, List.set_cons_succ, List.set_cons_zero,
    seqR_nx, ap_ifS, ap_andB, ap_orB, ap_notB, ap_notR, ap_tst, ev_eq_int, ev_ne_int, tstR_ok, ap_andB1, ap_orB1, decide_false, decide_true, Bool.not_true, Bool.not_false, pickM_f, pickM_t, ap_okB, ap_ifS1, ap_nx, ev_gt_int, ev_ge_int, ev_lt_int, ev_le_int,
    ap_set, ap_set1, setR_ok, ap_blt, ap_consR, ap_nilR, ap_consD, ap_nilD, ap_cons1, ap_consT, ap_blt1, conts_cons, conts_nil, cons2_some, one_ok, ev_gint_int, ev_gabs_int, ev_len_lst, ev_mod_int, ev_fdiv_int, ap_ret, ap_ret1, outR_d, outR_fr, ap_rtR, seqR_rt, endM_rt, endM_nx, Nat.reduceLT,
    ap_call, ap_call1, at_ok, ap_tup, ap_lst, ap_tru, ap_tru1, truR_ok, truD_bl, ap_neg, ap_neg1, negR_ok, ap_for, forR_ok, ap_its, itsR_str, itsR_lst, itsR_kl, itsR_tup, ap_rng1, ap_rng2, ap_part, part1_int, ap_noP, ap_sl, ap_sl1, ap_sl2, sl3_ok (cont_kl _ _ _), sl3_ok (cont_str _ _ _), sl3_ok (cont_lst _ _ _), cut_kl, cut_lst, ap_and, ap_and1, ap_or, ap_or1, truK_t, truK_f, ap_okR, ap_not, ap_not1, notV_ok, ap_sto, setSto_ok', ap_lc, lst1_ok, tup1_ok, isi_non_int, isi_non_bool, isi_non_str, isi_non_list, isi_non_tuple, isi_non_seq, isi_bl_int, isi_bl_bool, isi_bl_str, isi_bl_list, isi_bl_tuple, isi_bl_seq, isi_int_int, isi_int_bool, isi_int_str, isi_int_list, isi_int_tuple, isi_int_seq, isi_str_int, isi_str_bool, isi_str_str, isi_str_list, isi_str_tuple, isi_str_seq, isi_lst_int, isi_lst_bool, isi_lst_str, isi_lst_list, isi_lst_tuple, isi_lst_seq, isi_kl_int, isi_kl_bool, isi_kl_str, isi_kl_list, isi_kl_tuple, isi_kl_seq, isi_tup_int, isi_tup_bool, isi_tup_str, isi_tup_list, isi_tup_tuple, isi_tup_seq, isi_kt_int, isi_kt_bool, isi_kt_str, isi_kt_list, isi_kt_tuple, isi_kt_seq, callR_ok, pick_cons, pick_nil, consO_some, List.append_nil, ap_mt, mt1_str, ap_mt2, mt3_ok, Bool.or_true, Bool.true_or, isF_non, isX_non, isF_bl, isX_bl, isF_int, isX_int, isF_str, isX_str, isF_lst, isX_lst, isF_tup, isX_tup, isF_kt, isX_kt, isF_kl, isX_kl, ev_ne_bl, ev_eq_bl, ev_eq_str, beq_self_eq_true, bne_self_eq_false, ev_len_tup, ev_len_kt, le_line, Nat.reduceLeDiff, $ts,*])
theorem zipD_paired {P : D → D → Prop} : ∀ {xs ys : List D}, Paired P xs ys → ∀ d ∈ zipD xs ys, ∃ x y, d = .tup [x, y] ∧ P x y
  | _, _, .nil, d, h => by cases h
  | _, _, .cons p t, d, h => by
    rcases List.mem_cons.mp h with e | e
    · exact ⟨_, _, e, p⟩
    · exact zipD_paired t d e
theorem paired_len {P : D → D → Prop} : ∀ {xs ys : List D}, Paired P xs ys → xs.length = ys.length
  | _, _, .nil => rfl
  | _, _, .cons _ t => congrArg Nat.succ (paired_len t)
end DV
namespace DV
open PySem PySem.Spec PyProof.Rows L2
def objF (fs : List (Str × D)) : List (Str × Sl) := fs.map fun p => (p.1, .val p.2)
def valsF : List (Str × Sl) → Option (List (Str × D))
  | [] => some []
  | (k, .val d) :: r => (valsF r).map fun l => (k, d) :: l
  | _ => none
def Sl.obj? : Sl → Option (Nat × List (Str × D))
  | .ins c fs => (valsF fs).map fun gs => (c, gs)
  | _ => none
theorem valsF_eq : ∀ {fs : List (Str × Sl)} {gs : List (Str × D)}, valsF fs = some gs → fs = objF gs
  | [], gs, e => by cases e; rfl
  | (k, s) :: r, gs, e => by
    cases s with
    | val d =>
      have e : (valsF r).map (fun l => (k, d) :: l) = some gs := e
      cases q : valsF r with
      | none => rw [q] at e; cases e
      | some l =>
        rw [q] at e
        cases e
        rw [valsF_eq q]
        rfl
    | _ => cases e
theorem obj_eq {s : Sl} {c : Nat} {fs : List (Str × D)} (e : s.obj? = some (c, fs)) : s = .ins c (objF fs) := by
  cases s with
  | ins c' gs =>
    have e : (valsF gs).map (fun l => (c', l)) = some (c, fs) := e
    cases q : valsF gs with
    | none => rw [q] at e; cases e
    | some l => rw [q] at e; cases e; rw [valsF_eq q]
  | _ => cases e
theorem frz_objF : ∀ fs : List (Str × D), frzF (objF fs) = fs
  | [] => rfl
  | (k, d) :: r => by
    show (k, d) :: frzF (objF r) = _
    rw [frz_objF r]
/-- the object that a result is -/
def getO (r : Rv) (ρ S : List Sl) : Option (Nat × List (Str × D)) := match r with
  | .d (.ins c fs) => some (c, fs)
  | .d (.ob j) => (S[j]?).bind Sl.obj?
  | .env i => (ρ[i]?).bind Sl.obj?
  | .fr s => s.obj?
  | _ => none
section
variable {Γ : Gm} {W : WX} {P : List Nat} {w w0 w1 : Wd} {σ : L2.St} {ρ S : List Sl} {R : List Addr} {F : Hp}
theorem OwnF.objF : ∀ {fs : List (Str × D)} {gs : List (Str × V)} {c : Cells}, OwnF Γ R F (DV.objF fs) gs c → c = [] ∧ RepF Γ R F fs gs
  | [], gs, c, h => by
    have h : OwnF Γ R F [] gs c := h
    rw [OwnF] at h
    exact ⟨h.2, by rw [RepF]; exact h.1⟩
  | (k, d) :: r, gs, c, h => by
    have h : OwnF Γ R F ((k, .val d) :: DV.objF r) gs c := h
    rw [OwnF] at h
    obtain ⟨v, gs', c1, c2, e1, o1, o2, e2⟩ := h
    rw [Own] at o1
    obtain ⟨z1, z2⟩ := OwnF.objF o2
    refine ⟨by rw [e2, o1.1, z1]; rfl, ?_⟩
    rw [RepF]
    exact ⟨v, gs', e1, o1.2, z2⟩
theorem RepF.own : ∀ {fs : List (Str × D)} {gs : List (Str × V)}, RepF Γ R F fs gs → OwnF Γ R F (DV.objF fs) gs []
  | [], gs, h => by
    rw [RepF] at h
    show OwnF Γ R F [] gs []
    rw [OwnF]
    exact ⟨h, rfl⟩
  | (k, d) :: r, gs, h => by
    rw [RepF] at h
    obtain ⟨v, gs', e1, r1, r2⟩ := h
    show OwnF Γ R F ((k, .val d) :: DV.objF r) gs []
    rw [OwnF]
    exact ⟨v, gs', [], [], e1, by rw [Own]; exact ⟨rfl, r1⟩, r2.own, rfl⟩
theorem RepF.look (f : Str) : ∀ {fs : List (Str × D)} {gs : List (Str × V)}, RepF Γ R F fs gs → (∀ d, fs.lookup f = some d → ∃ v, gs.lookup f = some v ∧ Rep Γ R F d v) ∧ (fs.lookup f = none → gs.lookup f = none)
  | [], gs, h => by
    rw [RepF] at h
    subst h
    exact ⟨fun d e => (by cases e), fun _ => rfl⟩
  | (k, x) :: r, gs, h => by iterate
    rw [RepF] at h
    obtain ⟨v, gs', e1, r1, r2⟩ := h
    subst e1
    obtain ⟨a, b⟩ := RepF.look f r2
    cases q : (f == k) with
    | true =>
      refine ⟨fun d e => ⟨v, ?_, ?_⟩, fun e => ?_⟩
      · rw [List.lookup_cons, q]
      · rw [List.lookup_cons, q] at e
        cases e
        exact r1
      · rw [List.lookup_cons, q] at e
        cases e
    | false =>
      refine ⟨fun d e => ?_, fun e => ?_⟩
      · rw [List.lookup_cons, q] at e ⊢
        exact a d e
      · rw [List.lookup_cons, q] at e ⊢
        exact b e
theorem RepF.length : ∀ {fs : List (Str × D)} {gs : List (Str × V)}, RepF Γ R F fs gs → fs.length = gs.length
  | [], gs, h => by rw [RepF] at h; subst h; rfl
  | (k, x) :: r, gs, h => by
    rw [RepF] at h
    obtain ⟨v, gs', e1, r1, r2⟩ := h
    subst e1
    rw [List.length_cons, List.length_cons, RepF.length r2]
def puF (f : Str) (d : D) : List (Str × D) → List (Str × D)
  | [] => [(f, d)]
  | (g, x) :: r => if g = f then (g, d) :: r else (g, x) :: puF f d r
theorem RepF.put {f : Str} {d : D} {v : V} (rd : Rep Γ R F d v) : ∀ {fs : List (Str × D)} {gs : List (Str × V)}, RepF Γ R F fs gs → RepF Γ R F (puF f d fs) (putF f v gs)
  | [], gs, h => by
    rw [RepF] at h
    subst h
    show RepF Γ R F [(f, d)] [(f, v)]
    rw [RepF]
    exact ⟨v, [], rfl, rd, by rw [RepF]⟩
  | (k, x) :: r, gs, h => by
    rw [RepF] at h
    obtain ⟨u, gs', e1, r1, r2⟩ := h
    subst e1
    show RepF Γ R F (if k = f then (k, d) :: r else (k, x) :: puF f d r) (if k = f then (k, v) :: gs' else (k, u) :: putF f v gs')
    by_cases q : k = f
    · rw [if_pos q, if_pos q, RepF]
      exact ⟨v, gs', rfl, rd, r2⟩
    · rw [if_neg q, if_neg q, RepF]
      exact ⟨u, _, rfl, r1, RepF.put rd r2⟩
theorem Own.obj {c : Nat} {fs : List (Str × D)} {v : V} {cs : Cells} (h : Own Γ R F (.ins c (DV.objF fs)) v cs) : ∃ a dx gs, v = .ref a ∧ RepF Γ R F fs gs ∧ cs = [(a, .ins (Γ.cA c) dx gs), (dx, .own a)] := by
  rw [Own] at h
  obtain ⟨a, dx, gs, c', e1, o, e2⟩ := h
  obtain ⟨z1, z2⟩ := o.objF
  subst z1
  exact ⟨a, dx, gs, e1, z2, e2⟩
/-- an object as it stands in the heap -/
theorem Rel.obj {r : Rv} {v : V} {c : Nat} {fs : List (Str × D)} (h : Rel Γ w ρ S σ) (o : RvOk Γ w0 w σ r v) (e : getO r ρ S = some (c, fs)) : ∃ a dx gs, v = .ref a ∧ w.H a = some (.ins (Γ.cA c) dx gs) ∧ w.H dx = some (.own a) ∧ RepF Γ w.R w.F fs gs := by iterate
  have owned : ∀ {s : Sl} {cs : Cells}, s.obj? = some (c, fs) → Own Γ w.R w.F s v cs → (∀ p ∈ cs, w.H p.1 = some p.2) → ∃ a dx gs, v = .ref a ∧ w.H a = some (.ins (Γ.cA c) dx gs) ∧ w.H dx = some (.own a) ∧ RepF Γ w.R w.F fs gs := fun e ow hc => by
    rw [obj_eq e] at ow
    obtain ⟨a, dx, gs, e1, e2, e3⟩ := ow.obj
    subst e3
    exact ⟨a, dx, gs, e1, hc (a, _) (by simp), hc (dx, _) (by simp), e2⟩
  cases r with
  | d x =>
    cases x with
    | ins c' fs' =>
      cases e
      have o : Rep Γ w.R w.F (.ins c fs) v := o
      rw [Rep] at o
      obtain ⟨a, dx, gs, e1, e2, e3, e4⟩ := o
      exact ⟨a, dx, gs, e1, h.good.sub _ _ e2, h.good.sub _ _ e3, e4⟩
    | ob j =>
      have e : (S[j]?).bind Sl.obj? = some (c, fs) := e
      cases q : S[j]? with
      | none => rw [q] at e; cases e
      | some s =>
        rw [q] at e
        obtain ⟨a, A, B, b, h1, h2, h3, _⟩ := h.own.sto_at q
        have o' : Rep Γ w.R w.F (.ob j) v := o
        rw [Rep] at o'
        obtain ⟨a', e1, e2⟩ := o'
        rw [h1] at e1; cases e1
        subst e2
        obtain ⟨v', ev, ow⟩ := OwnO.of_ne h3 (fun z => by subst z; cases e)
        cases ev
        exact owned e ow (h.cellsH h2)
    | _ => cases e
  | env i =>
    have o' : σ[i]? = some (some v) := o
    have e : (ρ[i]?).bind Sl.obj? = some (c, fs) := e
    cases q : ρ[i]? with
    | none => rw [q] at e; cases e
    | some s =>
      rw [q] at e
      obtain ⟨o1, A, B, b, h1, h2, h3, _⟩ := h.own.env_at q
      rw [o'] at h1; cases h1
      obtain ⟨v', ev, ow⟩ := OwnO.of_ne h3 (fun z => by subst z; cases e)
      cases ev
      exact owned e ow (h.cellsE h2)
  | fr s =>
    obtain ⟨cs, ow, f, _⟩ := o
    exact owned e ow fun p hp => (f.at_ p hp).1
end
structure FT (Γ : Gm) (T : Nat → Str → Bool) : Prop where
  ok : ∀ c f, T c f = true → Cls Γ.K (Γ.cA c) ∧ NoAttr Γ.K (Γ.cA c) f
def fldR (T : Nat → Str → Bool) (f : Str) (o : Option (Nat × List (Str × D))) : Option D := match o with
  | some (c, fs) => if T c f = true then fs.lookup f else none
  | none => none
def cFld (T : Nat → Str → Bool) (f : Str) (co : M Rv) : M Rv := fun ρ S => (co ρ S).bind fun r ρ S => match fldR T f (getO r ρ S) with
  | some d => .ok (.d d) ρ S false
  | none => .bad
section
variable {Γ : Gm} {W : WX} {P : List Nat} {w w0 w1 : Wd} {σ : L2.St} {ρ S : List Sl} {X : Cx} {e o : Expr} {f : Str} {pos pos' : Pos} {ce co cv : M Rv} {T : Nat → Str → Bool}
def getW (r : Rv) (ρ S : List Sl) : Option (Nat × List (Str × D)) := match r with
  | .d (.ob j) => (S[j]?).bind Sl.obj?
  | .env i => (ρ[i]?).bind Sl.obj?
  | _ => none
def fstR (T : Nat → Str → Bool) (f : Str) (d : D) (o : Option (Nat × List (Str × D))) : Option Sl := match o with
  | some (c, fs) => if T c f = true ∧ fs.length < 1000 then some (.ins c (objF (puF f d fs))) else none
  | none => none
def cFst (T : Nat → Str → Bool) (f : Str) (cv co : M Rv) : M Fl := fun ρ S => (cD cv ρ S).bind fun d ρ S => (co ρ S).bind fun ro ρ S => match fstR T f d (getW ro ρ S) with
  | some s => .ok .nx (putP ro s ρ S).1 (putP ro s ρ S).2 false
  | none => .bad
end
end DV
namespace DV
open PySem PySem.Spec PyProof.Rows L2
/-- the datum that is handed on as self, of the class c, without an attribute m -/
def selfR (c : Nat) (m : Str) (d : D) (S : List Sl) : Bool := match getO (.d d) [] S with
  | some (c', fs) => decide (c' = c) && (fs.lookup m).isNone
  | none => false
def cMeth (c : Nat) (mn : Str) (m : List D → List Sl → Res Rv) (n j : Nat) (gD : List D → List D → List D) (co : M Rv) (cs ks : M (List D)) : M Rv := fun ρ S => (cD co ρ S).bind fun d ρ S =>
  if selfR c mn d S = true then (cs ρ S).bind fun ds ρ S => (ks ρ S).bind fun es ρ S => if ds.length = n ∧ es.length = j then (m (gD (d :: ds) es) S).at ρ else .bad else .bad
def Res.noex {α : Type} : Res α → Res α
  | .ex _ _ _ => .bad
  | r => r
def cProp (c : Nat) (m : List D → List Sl → Res Rv) (co : M Rv) : M Rv := fun ρ S => (cD co ρ S).bind fun d ρ S =>
  if selfR c "" d S = true then (m [d] S).noex.at ρ else .bad
end DV
namespace DV
open PySem PySem.Spec PyProof.Rows L2
section
variable (Γ : Gm)
/-- how the arguments come to the parameters behind self -/
def CallI (K : PySem.W.Frag) (fd : FuncData) (ps : List Str) (n : Nat) (ks : List Str) (gD : List D → List D → List D) : Prop :=
  ∃ g gV, KBn K fd ps (n + 1) ks g gV ∧ ∀ R F ds vs es zs x, RepL Γ R F ds vs → RepL Γ R F es zs → vs.length = n → zs.length = ks.length → ∃ vs', gV (.ref x :: vs) zs = .ref x :: vs' ∧ RepL Γ R F (gD ds es) vs' ∧ (gD ds es).length + 1 = ps.length
end
section
variable {Γ : Gm} {W : WX} {w w0 w1 : Wd} {σ : L2.St} {ρ S : List Sl} {Q : VK} {X : Cx} {k n : Nat} {f : Addr} {fd : FuncData} {ps ks : List Str} {x : Str} {p pos : Pos} {e : Expr} {es : List Expr} {kws : List Keyword} {cs ck : M (List D)} {m : List D → List Sl → Res Rv} {gD : List D → List D → List D} {c : Nat}
def envI (n c : Nat) (ds : List D) : List Sl := .ins c [] :: (ds.map .val ++ List.replicate (n - 1 - ds.length) .emp)
end
end DV
namespace DV
open PySem PySem.Spec PyProof.Rows L2
def D.typS (S : List Sl) : D → Option Ty
  | .ob j => match S[j]? with
    | some (.lst _) => some .lst
    | some (.dK _) => some .dct
    | some (.dT _) => some .dct
    | some (.ins c fs) => ((Sl.ins c fs).obj?).map fun p => .ow p.1
    | _ => none
  | d => d.typ
def bT7 : List Ty := [.non, .bl, .int, .str, .lst, .tup, .dct]
def bT6 : List Ty := [.int, .bl, .str, .lst, .tup, .dct]
/-- n own classes; sub: which is one of which -/
def isT2 (n : Nat) (sub : Nat → Nat → Bool) : Ty → Ty → Option Bool
  | .ow c, .ow d => if c < n ∧ d < n then some (sub c d) else none
  | .ow c, u => if c < n ∧ u ≠ .non then some false else none
  | t, .ow d => if d < n then some false else none
  | .bl, .int => some true
  | t, u => if u ≠ .non then some (decide (t = u)) else none
def isAny2 (n : Nat) (sub : Nat → Nat → Bool) (t : Ty) : List Ty → Option Bool
  | [] => some false
  | u :: us => match isT2 n sub t u with
    | some true => some true
    | some false => isAny2 n sub t us
    | none => none
structure ClT (Γ : Gm) (n : Nat) (sub : Nat → Nat → Bool) : Prop where
  cls : ∀ c, c < n → Cls Γ.K (Γ.cA c) ∧ PySem.W.findIn Γ.K (.ref (Γ.cA c)) "__class__" = some (some (.builtin "object.__class__")) ∧ PySem.W.specialIn Γ.K (.builtin "object.__class__") "__get__" = some (some (.builtin "getset_descriptor.__get__")) ∧
    PySem.W.takesIn Γ.K (.builtin "object.__class__") = some true ∧ PySem.W.mroIn Γ.K (Γ.cA c) (.type "object") = some true
  oo : ∀ c, c < n → ∀ d, d < n → PySem.W.kitOne Γ.K (.ref (Γ.cA c)) (.ref (Γ.cA d)) = some (sub c d) ∧ (sub d c = false ∨ c = d → PySem.W.notFirst Γ.K (Γ.cA c) (.ref (Γ.cA d)) = true)
  ob : ∀ c, c < n → ∀ t, t ∈ bT6 → PySem.W.kitOne Γ.K (.ref (Γ.cA c)) (.type t.name) = some false
  bo : ∀ c, c < n → ∀ t, t ∈ bT7 → PySem.W.kitOne Γ.K (.type t.name) (.ref (Γ.cA c)) = some false ∧ PySem.W.notFirst Γ.K (Γ.cA c) (.type t.name) = true
section
variable {Γ : Gm} {W : WX} {n : Nat} {sub : Nat → Nat → Bool} {w w0 w1 : Wd} {σ : L2.St} {ρ S : List Sl}
def Ty.isOw : Ty → Bool
  | .ow _ => true
  | _ => false
theorem Ty.val_b {t : Ty} (h : t.isOw = false) : t.val Γ = .type t.name ∧ t ∈ bT7 := by
  cases t with
  | ow c => cases h
  | _ => exact ⟨rfl, by decide⟩
theorem kit2 (O : ClT Γ n sub) {t u : Ty} {b : Bool} (e : isT2 n sub t u = some b) : PySem.W.kitOne Γ.K (t.val Γ) (u.val Γ) = some b := by iterate
  cases ht : t.isOw with
  | true =>
    cases t with
    | ow c =>
      cases hu : u.isOw with
      | true =>
        cases u with
        | ow d =>
          simp only [isT2] at e
          split at e
          · rename_i h
            cases e
            exact (O.oo c h.1 d h.2).1
          · cases e
        | _ => cases hu
      | false =>
        have e' : (if c < n ∧ u ≠ .non then some false else none) = some b := by
          cases u <;> first | exact e | cases hu
        split at e'
        · rename_i h
          cases e'
          rw [(Ty.val_b (Γ := Γ) hu).1]
          refine O.ob c h.1 u ?_
          cases u <;> first | decide | exact absurd rfl h.2 | (cases hu; done)
        · cases e'
    | _ => cases ht
  | false =>
    cases hu : u.isOw with
    | true =>
      cases u with
      | ow d =>
        have e' : (if d < n then some false else none) = some b := by
          cases t <;> first | exact e | cases ht
        split at e'
        · rename_i h
          cases e'
          rw [(Ty.val_b (Γ := Γ) ht).1]
          exact (O.bo d h t (Ty.val_b (Γ := Γ) ht).2).1
        · cases e'
      | _ => cases hu
    | false =>
      have e1 : isT (fun _ _ => none) t u = some b ∧ u ∈ [Ty.int, .bl, .str, .lst, .tup, .dct] := by
        cases t <;> cases u <;> first | (cases ht; done) | (cases hu; done) | (exact ⟨by simpa [isT2, isT] using e, by decide⟩) | (exfalso; revert e; simp [isT2])
      rw [(Ty.val_b (Γ := Γ) hu).1, (Ty.val_b (Γ := Γ) ht).1]
      exact kit_ty ((kit_all t (Ty.val_b (Γ := Γ) ht).2 u e1.2).trans e1.1)
theorem kitA2 (O : ClT Γ n sub) {t : Ty} : ∀ {us : List Ty} {b : Bool}, isAny2 n sub t us = some b → PySem.W.kitAny Γ.K (t.val Γ) (us.map (·.val Γ)) = some b
  | [], b, e => by cases e; rfl
  | u :: us, b, e => by
    rw [isAny2] at e
    show PySem.W.kitAny Γ.K (t.val Γ) (u.val Γ :: us.map (·.val Γ)) = some b
    cases q : isT2 n sub t u with
    | none => rw [q] at e; cases e
    | some k =>
      rw [q] at e
      unfold PySem.W.kitAny
      rw [kit2 O q]
      cases k with
      | true => cases e; rfl
      | false => exact kitA2 O e
theorem typ2 (O : ClT Γ n sub) (h : Rel Γ w ρ S σ) {d : D} {v : V} {t : Ty} (e : d.typS S = some t) (hc : ∀ c, t = .ow c → c < n) (r : Rep Γ w.R w.F d v) : TyX Γ.K w.H v (t.val Γ) := by iterate
  have plain : d.typ = some t → TyX Γ.K w.H v (t.val Γ) := fun e => by
    have O2 : OwOk Γ (fun c u => match t with
        | .ow c' => if c = c' then (match u with
          | .ow d => if c = d then some (sub c d) else none
          | _ => none) else none
        | _ => none) := by
      constructor
      · intro c u b z
        cases t with
        | ow c' =>
          simp only at z
          split at z
          · rename_i hcc
            subst hcc
            cases u with
            | ow d =>
              simp only at z
              split at z
              · rename_i hcd
                subst hcd
                cases z
                exact (O.oo c (hc c rfl) c (hc c rfl)).1
              · cases z
            | _ => cases z
          · cases z
        | _ => cases z
      · intro c u b z
        cases t with
        | ow c' =>
          simp only at z
          split at z
          · rename_i hcc
            subst hcc
            exact O.cls c (hc c rfl)
          · cases z
        | _ => cases z
    refine typ_of O2 h.good e (fun c z => ⟨.ow c, sub c c, ?_⟩) (r.top h.good)
    subst z
    simp
  cases d with
  | ob j =>
    have e : (match S[j]? with
      | some (.lst _) => some Ty.lst
      | some (.dK _) => some .dct
      | some (.dT _) => some .dct
      | some (.ins c fs) => ((Sl.ins c fs).obj?).map fun p => .ow p.1
      | _ => none) = some t := e
    cases q : S[j]? with
    | none => rw [q] at e; cases e
    | some s =>
      rw [q] at e
      obtain ⟨a, A, B, b, h1, h2, h3, _⟩ := h.own.sto_at q
      have o' : Rep Γ w.R w.F (.ob j) v := r
      rw [Rep] at o'
      obtain ⟨a', e1, e2⟩ := o'
      rw [h1] at e1; cases e1
      subst e2
      have cell := h.cellsH h2
      cases s with
      | lst xs =>
        cases e
        obtain ⟨v', ev, ow⟩ := h3
        rw [Own] at ow
        obtain ⟨a2, ys, e3, _, e4⟩ := ow
        cases ev; cases e3; subst e4
        exact .base (.lst (cell (a, .lst ys) (by simp)))
      | dK xs =>
        cases e
        obtain ⟨v', ev, ow⟩ := h3
        rw [Own] at ow
        obtain ⟨a2, ys, e3, _, e4⟩ := ow
        cases ev; cases e3; subst e4
        exact .base (.dK (cell (a, .dK ys) (by simp)))
      | dT xs =>
        cases e
        obtain ⟨v', ev, ow⟩ := h3
        rw [Own] at ow
        obtain ⟨a2, ys, e3, _, e4⟩ := ow
        cases ev; cases e3; subst e4
        exact .base (.dT (cell (a, .dT ys) (by simp)))
      | ins c fs =>
        have e : ((Sl.ins c fs).obj?).map (fun p => Ty.ow p.1) = some t := e
        cases q2 : (Sl.ins c fs).obj? with
        | none => rw [q2] at e; cases e
        | some p =>
          obtain ⟨c', gs⟩ := p
          rw [q2] at e
          cases e
          obtain ⟨a2, dx, hs, e3, e4, _, _⟩ := h.obj (w0 := w) (r := .d (.ob j)) (v := .ref a) (c := c') (fs := gs) r (by show (S[j]?).bind Sl.obj? = _; rw [q]; exact q2)
          cases e3
          obtain ⟨c1, c2, c3, c4, c5⟩ := O.cls c' (hc c' rfl)
          exact .base (.ins e4 c1 c2 c3 c4 c5)
      | _ => cases e
  | _ => exact plain e
end
def isiR (n : Nat) (sub : Nat → Nat → Bool) (S : List Sl) : List D → Option Bool
  | [x, .tup cs] => match x.typS S, asTys cs with
    | some t, some us => if us.isEmpty then none else isAny2 n sub t us
    | _, _ => none
  | [x, c] => match x.typS S, c.asTy with
    | some t, some u => isT2 n sub t u
    | _, _ => none
  | _ => none
def cIsi (n : Nat) (sub : Nat → Nat → Bool) (cs : M (List D)) : M Rv := fun ρ S => (cs ρ S).bind fun ds ρ S => match isiR n sub S ds with
  | some b => .ok (.d (.bl b)) ρ S false
  | none => .bad
theorem isT2_ow {n : Nat} {sub : Nat → Nat → Bool} {t u : Ty} {b : Bool} (e : isT2 n sub t u = some b) : ∀ c, t = .ow c → c < n := fun c h => by
  subst h
  cases u with
  | ow d =>
    simp only [isT2] at e
    split at e
    · rename_i h; exact h.1
    · cases e
  | _ =>
    simp only [isT2] at e
    split at e
    · rename_i h; exact h.1
    · cases e
theorem isAny2_ow {n : Nat} {sub : Nat → Nat → Bool} {t : Ty} : ∀ {us : List Ty} {b : Bool}, us ≠ [] → isAny2 n sub t us = some b → ∀ c, t = .ow c → c < n
  | [], _, h, _ => absurd rfl h
  | u :: us, b, _, e => by
    rw [isAny2] at e
    cases q : isT2 n sub t u with
    | none => rw [q] at e; cases e
    | some k => exact isT2_ow q
section
variable {X : Cx} {Γ : Gm} {W : WX} {n : Nat} {sub : Nat → Nat → Bool} {e : Expr} {es : List Expr} {cs : M (List D)} {p pos : Pos}
theorem isi_of {w : Wd} {σ : L2.St} {ρ S : List Sl} {ds : List D} {vs : List V} {b : Bool} {Q : VK} (O : ClT Γ n sub) (h : Rel Γ w ρ S σ) (l : RepL Γ w.R w.F ds vs) (e : isiR n sub S ds = some b) (q : Q (.bl b) w.H) : rIsi Γ.K vs w.H Q ∨ rIsiT Γ.K vs w.H Q := by iterate
  have two : ∃ x c, ds = [x, c] := by
    match ds, e with
    | [x, c], _ => exact ⟨x, c, rfl⟩
    | [], e => cases e
    | [x], e => cases e
    | x :: c :: y :: r, e => exact absurd e (by cases c <;> simp [isiR])
  obtain ⟨x, c, rfl⟩ := two
  rw [RepL] at l
  obtain ⟨v, vs', rfl, rx, l⟩ := l
  rw [RepL] at l
  obtain ⟨u, vs2, rfl, rc, l⟩ := l
  rw [RepL] at l
  subst l
  by_cases ht : ∃ cs, c = .tup cs
  · obtain ⟨cs, rfl⟩ := ht
    simp only [isiR] at e
    cases e1 : x.typS S with
    | none => simp only [e1] at e; cases e
    | some t =>
      cases e2 : asTys cs with
      | none => simp only [e1, e2] at e; cases e
      | some us =>
        simp only [e1, e2] at e
        split at e
        · cases e
        · rename_i hne
          rw [Rep] at rc
          obtain ⟨a, ys, rfl, ha, la⟩ := rc
          obtain ⟨k1, k2⟩ := asTys_cls e2 la
          have ne : us ≠ [] := fun z => hne (by rw [z]; rfl)
          exact .inr ⟨v, a, ys, _, _, b, rfl, h.good.sub _ _ ha, k1, typ2 O h e1 (isAny2_ow ne e) rx, kitA2 O e, q⟩
  · have e' : (match x.typS S, c.asTy with
      | some t, some u => isT2 n sub t u
      | _, _ => none) = some b := by
      cases c <;> first | exact e | exact absurd ⟨_, rfl⟩ ht
    cases e1 : x.typS S with
    | none => simp only [e1] at e'; cases e'
    | some t =>
      cases e2 : c.asTy with
      | none => simp only [e1, e2] at e'; cases e'
      | some u' =>
        simp only [e1, e2] at e'
        obtain ⟨k1, k2⟩ := asTy_cls e2 rc
        exact .inl ⟨v, u, _, _, b, rfl, k1, typ2 O h e1 (isT2_ow e') rx, kit2 O e', q⟩
theorem pm_isi (hK : Γ.K = X.K) (O : ClT Γ n sub) (hg : Gl X "isinstance") (hm : X.mg "isinstance" = none) (ha : PA X (e :: es) (tMl Γ W cs)) (he : starEach (e :: es) X.env = (false, eval e X.env) :: starEach es X.env) (hpl : (backTo pos (starEach es X.env)).any (·.1) = false) :
    PE X (.Call (.Name "isinstance" p) (e :: es) [] pos) (tM Γ W (cIsi n sub cs)) := by iterate
  refine (pe_callB (CallR.or call_isi call_isiT) hg hm (by rfl) ha (by decide) (by decide) he hpl).imp fun σ H Q ⟨F, E, C, R, ρ, S, rel, h⟩ => ⟨F, E, C, R, ρ, S, rel, CKl.bindV h fun ds ρ1 S1 w1 vs x1 rel1 l1 ck1 => ?_⟩
  cases q : isiR n sub S1 ds with
  | none => simp only [q] at ck1; exact ck1.elim
  | some b =>
    simp only [q] at ck1
    rw [← hK]
    exact isi_of O rel1 l1 q (ck1 w1 (.bl b) (.refl _) (fun _ => rfl) rel1 (show Rep Γ w1.R w1.F (.bl b) (.bl b) from rep_bl))
end
end DV
namespace DV
open PySem PySem.Spec PyProof.Rows L2
section
variable (X : Cx) (Γ : Gm) (W : WX)
/-- the data ds stand for vs; g tells what is done -/
def rDat (g : List D → List Sl → Res Rv) : L2.St → List V → Hp → VK → Prop := fun σ vs H Q => ∃ F E C R ρ S ds, Rel Γ ⟨F, E, C, R, H⟩ ρ S σ ∧ RepL Γ R F ds vs ∧ CK Γ W ⟨F, E, C, R, H⟩ σ Q ((g ds S).at ρ)
def OpD2 (f : Value → Value → Sem Value) (g : List D → List Sl → Res Rv) : Prop := ∀ (pins : List (Addr × Obj)) (s : Shared) (σ : L2.St) (H : Hp) (x y : V) (v u : Value) (Q : VK), Inv X pins σ H s → RelV x v → RelV y u → rDat Γ W g σ [x, y] H Q →
  wpAny (model X.prog X.w) X.A (f v u) (EP X pins σ Q) X.xe s
def OpD1 (f : Value → Sem Value) (g : List D → List Sl → Res Rv) : Prop := ∀ (pins : List (Addr × Obj)) (s : Shared) (σ : L2.St) (H : Hp) (x : V) (v : Value) (Q : VK), Inv X pins σ H s → RelV x v → rDat Γ W g σ [x] H Q →
  wpAny (model X.prog X.w) X.A (f v) (EP X pins σ Q) X.xe s
end
/-- first the one, then the other -/
def hOr (g g' : List D → List Sl → Res Rv) : List D → List Sl → Res Rv := fun ds S => match g ds S with
  | .bad => g' ds S
  | r => r
section
variable {X : Cx} {Γ : Gm} {W : WX} {f : Value → Value → Sem Value} {f1 : Value → Sem Value} {g g' : List D → List Sl → Res Rv}
theorem rDat.or {σ : L2.St} {vs : List V} {H : Hp} {Q : VK} (h : rDat Γ W (hOr g g') σ vs H Q) : rDat Γ W g σ vs H Q ∨ rDat Γ W g' σ vs H Q := by iterate
  obtain ⟨F, E, C, R, ρ, S, ds, rel, l, ck⟩ := h
  cases q : g ds S with
  | bad =>
    have e : hOr g g' ds S = g' ds S := by simp only [hOr, q]
    rw [e] at ck
    exact .inr ⟨F, E, C, R, ρ, S, ds, rel, l, ck⟩
  | ok r ρ' S' t =>
    have e : hOr g g' ds S = g ds S := by simp only [hOr, q]
    rw [e] at ck
    exact .inl ⟨F, E, C, R, ρ, S, ds, rel, l, ck⟩
  | ex y ρ' S' =>
    have e : hOr g g' ds S = g ds S := by simp only [hOr, q]
    rw [e] at ck
    exact .inl ⟨F, E, C, R, ρ, S, ds, rel, l, ck⟩
theorem OpD2.or (h : OpD2 X Γ W f g) (h' : OpD2 X Γ W f g') : OpD2 X Γ W f (hOr g g') := fun pins s σ H x y v u Q I rx ry q => q.or.elim (h pins s σ H x y v u Q I rx ry) (h' pins s σ H x y v u Q I rx ry)
theorem OpD1.or (h : OpD1 X Γ W f1 g) (h' : OpD1 X Γ W f1 g') : OpD1 X Γ W f1 (hOr g g') := fun pins s σ H x v Q I rx q => q.or.elim (h pins s σ H x v Q I rx) (h' pins s σ H x v Q I rx)
end
/-- a new thing is frozen at once -/
def frzR (r : Rv) : M Rv := fun ρ S => match r with
  | .fr s => .ok (.d s.frz) ρ S false
  | r => .ok r ρ S false
def cF (c : M Rv) : M Rv := fun ρ S => (c ρ S).bind fun r ρ S => frzR r ρ S
def two2 (g : D → D → Option Rv) : Option D → Option D → Option Rv
  | some a, some b => g a b
  | _, _ => none
def own2 (h : List D → List Sl → Res Rv) : Rv → Rv → M Rv
  | .d d1, .d d2 => fun ρ S => (h [d1, d2] S).at ρ
  | _, _ => M.bad
def cOp2 (g : D → D → Option Rv) (h : List D → List Sl → Res Rv) (ca cb : M Rv) : M Rv := fun ρ S => (cF ca ρ S).bind fun ra ρ S => (cF cb ρ S).bind fun rb ρ S => match two2 g (cont ρ S ra) (cont ρ S rb) with
  | some r => .ok r ρ S false
  | none => own2 h ra rb ρ S
section
variable {X : Cx} {Γ : Gm} {W : WX} {w w0 w1 : Wd} {σ : L2.St} {ρ S : List Sl} {f : Value → Value → Sem Value} {g : D → D → Option Rv} {h : List D → List Sl → Res Rv} {r : R2} {a b : Expr} {ca cb : M Rv} {pos : Pos}
theorem CK.frz {c : M Rv} {fn : Rv → List Sl → List Sl → Res Rv} {Q Q1 : VK} (h : CK Γ W w σ Q ((cF c ρ S).bind fn))
    (k : ∀ a ρ' S' w' v, Ext w w' → Rel Γ w' ρ' S' σ → RvOk Γ w w' σ a v → CK Γ W w' σ Q (fn a ρ' S') → Q1 v w'.H) : CK Γ W w σ Q1 (c ρ S) := by iterate
  unfold cF at h
  cases q : c ρ S with
  | ok r ρ1 S1 t1 =>
    rw [q] at h
    intro w1 v x1 e1 r1 o1
    rw [Res.bind_ok] at h
    cases r with
    | fr s =>
      obtain ⟨F', up, x', g', rep⟩ := freeze_fr x1 r1.good o1
      have h : CK Γ W w σ Q (((Res.ok (.d s.frz) ρ1 S1 false).addt t1).bind fn) := h
      exact k (.d s.frz) ρ1 S1 { w1 with F := F' } v x' (r1.move ⟨⟨[], by simp⟩, up⟩ g' rfl rfl rfl) rep (CK.ext x' (t := t1 || false) (fun z => e1 (by cases t1 <;> first | rfl | cases z)) h)
    | d x =>
      have h : CK Γ W w σ Q (((Res.ok (.d x) ρ1 S1 false).addt t1).bind fn) := h
      exact k (.d x) ρ1 S1 w1 v x1 r1 o1 (CK.ext x1 (t := t1 || false) (fun z => e1 (by cases t1 <;> first | rfl | cases z)) h)
    | env i =>
      have h : CK Γ W w σ Q (((Res.ok (.env i) ρ1 S1 false).addt t1).bind fn) := h
      exact k (.env i) ρ1 S1 w1 v x1 r1 o1 (CK.ext x1 (t := t1 || false) (fun z => e1 (by cases t1 <;> first | rfl | cases z)) h)
  | ex y ρ1 S1 => rw [q] at h; exact h
  | bad => rw [q] at h; exact h
end
def notQ : Res Rv → Res Rv
  | .ok (.d (.bl b)) ρ S t => .ok (.d (.bl (!b))) ρ S t
  | .ex x ρ S => .ex x ρ S
  | _ => .bad
def hNe (h : List D → List Sl → Res Rv) : List D → List Sl → Res Rv := fun ds S => notQ (h ds S)
section
variable {X : Cx} {Γ : Gm} {W : WX} {n : Nat} {sub : Nat → Nat → Bool} {w w0 w1 : Wd} {σ : L2.St} {ρ S : List Sl} {c k : Nat} {f : Addr} {fd : FuncData} {ps : List Str} {m : List D → List Sl → Res Rv}
theorem rDat.ne {g : List D → List Sl → Res Rv} {vs : List V} {H : Hp} {Q : VK} (h : rDat Γ W (hNe g) σ vs H Q) : rDat Γ W g σ vs H fun v H' => ∃ b, v = .bl b ∧ Q (.bl (!b)) H' := by iterate
  obtain ⟨F, E, C, R, ρ, S, ds, rel, l, ck⟩ := h
  refine ⟨F, E, C, R, ρ, S, ds, rel, l, ?_⟩
  unfold hNe at ck
  cases q : g ds S with
  | ok r ρ' S' t =>
    rw [q] at ck
    cases r with
    | d x =>
      cases x with
      | bl b =>
        intro w' v x' e' r' o'
        cases (show v = .bl b from o')
        exact ⟨b, rfl, ck w' (.bl (!b)) x' e' r' (show Rep Γ w'.R w'.F (.bl (!b)) (.bl (!b)) from rep_bl)⟩
      | _ => exact ck.elim
    | _ => exact ck.elim
  | ex y ρ' S' => rw [q] at ck; exact ck
  | bad => rw [q] at ck; exact ck.elim
end
end DV
namespace DV
open PySem PySem.Spec PyProof.Rows L2
def own1 (h : List D → List Sl → Res Rv) : Rv → M Rv
  | .d d1 => fun ρ S => (h [d1] S).at ρ
  | _ => M.bad
def one1 (g : List D → Option Rv) : Option D → Option Rv
  | some d => g [d]
  | none => none
def cOp1 (g : List D → Option Rv) (h : List D → List Sl → Res Rv) (c : M Rv) : M Rv := fun ρ S => (cF c ρ S).bind fun r ρ S => match one1 g (cont ρ S r) with
  | some r' => .ok r' ρ S false
  | none => own1 h r ρ S
def fmtD : D → Option Str
  | .str y => if y.length ≤ sizeLine then some y else none
  | .int i => if i.natAbs.log2 < 1920 then some (toString i) else none
  | _ => none
def cFmt (c : M Rv) : M Rv := fun ρ S => (c ρ S).bind fun r ρ S => match (cont ρ S r).bind fmtD with
  | some y => .ok (.d (.str y)) ρ S false
  | none => .bad
def catR (acc : Str) : D → Option Str
  | .str y => if (acc ++ y).length ≤ sizeLine then some (acc ++ y) else none
  | _ => none
def cJsA : List (M Rv) → Str → M Rv
  | [], acc => fun ρ S => .ok (.d (.str acc)) ρ S false
  | c :: cs, acc => fun ρ S => (cD c ρ S).bind fun d ρ S => match catR acc d with
    | some acc' => cJsA cs acc' ρ S
    | none => .bad
def cJs (cs : List (M Rv)) : M Rv := cJsA cs Str.empty
end DV
namespace DV
open PySem PySem.Spec PyProof.Rows L2
def enumR : List D → Option (List D)
  | [.lst xs] => some (enumD 0 xs)
  | [.kl xs] => some (enumD 0 xs)
  | [.tup xs] => some (enumD 0 xs)
  | [.kt xs] => some (enumD 0 xs)
  | [.str z] => some (enumD 0 (z.cps.toList.map fun c => .str ⟨#[c]⟩))
  | _ => none
def cEnumA (cs : M (List D)) : M (List D) := fun ρ S => (cs ρ S).bind fun ds ρ S => match enumR ds with
  | some xs => .ok xs ρ S false
  | none => .bad
end DV
namespace DV
open PySem PySem.Spec PyProof.Rows L2
section
variable {X : Cx} {Γ : Gm} {W : WX} {x : Str} {pos : Pos}
theorem pm_cl (c : Nat) (hm : X.mg x = some (.ref (Γ.cA c))) (hg : Gl X x) (hd : (x == ("__debug__" : Str)) = false) : PE X (.Name x pos) (tM Γ W (cC (.cl c))) :=
  pm_gO hm (fun R F => by rw [Rep]) hg hd
end
structure KonT (Γ : Gm) (kon : Nat → Str → Option D) : Prop where
  ok : ∀ c f d, kon c f = some d → ∃ v u, ClX.CRead Γ.K (Γ.cA c) (.type "type") ∧ ClX.CVal Γ.K (Γ.cA c) (.type "type") f v u ∧ Cls Γ.K (Γ.cA c) ∧ Con Γ.K (Γ.cA c) f v u ∧ ∀ R F, Rep Γ R F d v
def konR (kon : Nat → Str → Option D) (f : Str) (r : Rv) (ρ S : List Sl) : Option D := match r with
  | .d (.cl c) => kon c f
  | r => match getO r ρ S with
    | some (c, fs) => if (fs.lookup f).isNone = true then kon c f else none
    | none => none
def cKon (kon : Nat → Str → Option D) (f : Str) (co : M Rv) : M Rv := fun ρ S => (co ρ S).bind fun r ρ S => match konR kon f r ρ S with
  | some d => .ok (.d d) ρ S false
  | none => .bad
def stoR (r : Rv) : M Rv := fun ρ S => match r with
  | .fr s => if s.one = true then .ok (.d (.ob S.length)) ρ (S ++ [s]) false else .bad
  | _ => .bad
def cStoE (c : M Rv) : M Rv := fun ρ S => (c ρ S).bind fun r ρ S => stoR r ρ S
theorem pick_self {α : Type} (ix : List Nat) (x : α) (l : List α) : pick (0 :: ix.map (· + 1)) (x :: l) = x :: pick ix l := by
  unfold pick
  rw [List.filterMap_cons, List.getElem?_cons_zero]
  congr 1
  rw [List.filterMap_map]
  congr 1
section
variable {Γ : Gm} {K : PySem.W.Frag} {x qual : Str} {params : Arguments} {body : List Stmt} {scope : Scope} {dvs : List V} {kws : List (Str × V)} {f : Addr} {fd : FuncData} {ps : List Str}
theorem cbI_N (F : FunD K x qual params body scope [] kws f fd) (n : Nat) (ks : List Str) (ix : List Nat) (hl : ix.length + 1 = ps.length) (hi : ∀ i ∈ ix, i < n + ks.length)
    (h : ∀ (kV doc pm : Value) (an : Option Addr) (cdv ct : Value) (us ws : List Value), us.length = n + 1 → ws.length = ks.length → bindArgs (PySem.W.fnOf x qual params body scope .none kV doc pm an cdv ct) ⟨us, ks.zip ws⟩ = pure (ps.zip (pick (0 :: ix.map (· + 1)) (us ++ ws)))) :
    CallI Γ K fd ps n ks (fun ds es => pick ix (ds ++ es)) := by iterate
  obtain ⟨oc, od, dV, kV, doc, pm, an, cdv, ct, osl, rfl, lk, hcd, hD, hK⟩ := F.ex
  rcases hD with ⟨_, rfl⟩ | ⟨e, _⟩
  · refine ⟨fun us ws => pick (0 :: ix.map (· + 1)) (us ++ ws), fun vs zs => pick (0 :: ix.map (· + 1)) (vs ++ zs), ⟨fun s us ws X l1 l2 => .of_eq (h kV doc pm an cdv ct us ws l1 l2), fun r1 r2 => vals_pick (r1.append r2) _⟩, fun R F ds vs es zs x l1 l2 n1 n2 => ⟨pick ix (vs ++ zs), pick_self ix _ _, (l1.app l2).pick ix, ?_⟩⟩
    rw [pick_len, hl]
    intro i hx
    rw [List.length_append, l1.length, l2.length, n1, n2]
    exact hi i hx
  · exact absurd rfl e
end
def clsB (K : PySem.W.Frag) (x : Str) : Bool := (He.Fa.cls x).ok K && (He.eqO (PySem.W.findIn K (.ref (He.ga K x)) "__class__") (some (some (.builtin "object.__class__"))) && (decide (PySem.W.mroIn K (He.ga K x) (.type "object") = some true) &&
  ((bT6.all fun t => decide (PySem.W.kitOne K (.ref (He.ga K x)) (.type t.name) = some false)) && (bT7.all fun t => decide (PySem.W.kitOne K (.type t.name) (.ref (He.ga K x)) = some false) && PySem.W.notFirst K (He.ga K x) (.type t.name)))))
def cls2B (K : PySem.W.Frag) (x y : Str) (b : Bool) (nf : Bool) : Bool := decide (PySem.W.kitOne K (.ref (He.ga K x)) (.ref (He.ga K y)) = some b) && (!nf || PySem.W.notFirst K (He.ga K x) (.ref (He.ga K y)))
def cls0B (K : PySem.W.Frag) : Bool := He.eqO (PySem.W.specialIn K (.builtin "object.__class__") "__get__") (some (some (.builtin "getset_descriptor.__get__"))) && decide (PySem.W.takesIn K (.builtin "object.__class__") = some true)
def clsAll (K : PySem.W.Frag) (nm : Nat → Str) (n : Nat) (sub : Nat → Nat → Bool) : Bool := cls0B K && ((List.range n).all fun c => (He.Fa.glo (nm c)).ok K && (clsB K (nm c) && (List.range n).all fun d => cls2B K (nm c) (nm d) (sub c d) (!(sub d c) || c == d)))
theorem clT_of {lm : Nat → LamI} {ce : List (Str × Addr)} {tb : Str → Addr} {K : PySem.W.Frag} {nm : Nat → Str} {n : Nat} {sub : Nat → Nat → Bool} (h : clsAll K nm n sub = true) : ClT ⟨K, fun c => He.ga K (nm c), lm, ce, tb⟩ n sub := by iterate
  obtain ⟨h0, h1⟩ := He.ba h
  obtain ⟨z1, z2⟩ := He.ba h0
  have row : ∀ c, c < n → clsB K (nm c) = true ∧ ∀ d, d < n → cls2B K (nm c) (nm d) (sub c d) (!(sub d c) || c == d) = true := fun c hc => by
    have a := List.all_eq_true.mp h1 c (List.mem_range.mpr hc)
    obtain ⟨_, a2⟩ := He.ba a
    obtain ⟨a3, a4⟩ := He.ba a2
    exact ⟨a3, fun d hd => List.all_eq_true.mp a4 d (List.mem_range.mpr hd)⟩
  refine ⟨fun c hc => ?_, fun c hc d hd => ?_, fun c hc t ht => ?_, fun c hc t ht => ?_⟩
  · obtain ⟨a1, a2⟩ := He.ba (row c hc).1
    obtain ⟨a3, a4⟩ := He.ba a2
    obtain ⟨a5, a6⟩ := He.ba a4
    exact ⟨He.cls_ok a1, He.eqO_ok a3, He.eqO_ok z1, of_decide_eq_true z2, of_decide_eq_true a5⟩
  · obtain ⟨a1, a2⟩ := He.ba ((row c hc).2 d hd)
    refine ⟨of_decide_eq_true a1, fun hx => ?_⟩
    have e : (!(sub d c) || c == d) = true := by
      rcases hx with z | z
      · rw [z]; rfl
      · subst z; simp
    rw [e] at a2
    simpa using a2
  · obtain ⟨a1, a2⟩ := He.ba (row c hc).1
    obtain ⟨a3, a4⟩ := He.ba a2
    obtain ⟨a5, a6⟩ := He.ba a4
    obtain ⟨a7, a8⟩ := He.ba a6
    exact of_decide_eq_true (List.all_eq_true.mp a7 t ht)
  · obtain ⟨a1, a2⟩ := He.ba (row c hc).1
    obtain ⟨a3, a4⟩ := He.ba a2
    obtain ⟨a5, a6⟩ := He.ba a4
    obtain ⟨a7, a8⟩ := He.ba a6
    obtain ⟨b1, b2⟩ := He.ba (List.all_eq_true.mp a8 t ht)
    exact ⟨of_decide_eq_true b1, b2⟩
/-- the fields of the classes -/
def fldAll (K : PySem.W.Frag) (nm : Nat → Str) (l : List (Nat × Str)) : Bool := l.all fun p => (He.Fa.cls (nm p.1)).ok K && (He.Fa.noat (nm p.1) p.2).ok K
def fldT (l : List (Nat × Str)) : Nat → Str → Bool := fun c f => l.any fun p => p.1 == c && decide (p.2 = f)
theorem ft_of {lm : Nat → LamI} {ce : List (Str × Addr)} {tb : Str → Addr} {K : PySem.W.Frag} {nm : Nat → Str} {l : List (Nat × Str)} (h : fldAll K nm l = true) : FT ⟨K, fun c => He.ga K (nm c), lm, ce, tb⟩ (fldT l) := by
  refine ⟨fun c f e => ?_⟩
  obtain ⟨p, hp, e⟩ := List.any_eq_true.mp e
  obtain ⟨e1, e2⟩ := He.ba e
  have e1 := beq_iff_eq.mp e1
  have e2 := of_decide_eq_true e2
  subst e1 e2
  obtain ⟨a1, a2⟩ := He.ba (List.all_eq_true.mp h p hp)
  exact ⟨He.cls_ok a1, He.noat_ok a2⟩
/-- constants of classes -/
def konB (K : PySem.W.Frag) (x f : Str) (v : V) : Bool := PySem.W.readsIn K (He.ga K x) (.type "type") && (He.eqO (PySem.W.specialIn K (.ref (He.ga K x)) "__getattribute__") (some (some (.builtin "type.__getattribute__"))) && ((He.Fa.cls x).ok K && ((!(PySem.W.copiedNames.contains f)) &&
  (match PySem.W.findCls K (.ref (He.ga K x)) (.type "type") f, PySem.W.findIn K (.ref (He.ga K x)) f with
    | some (.val u), some (some u') => decide (u = u') && (He.relB v u && He.eqO (PySem.W.specialIn K u "__get__") (some none))
    | _, _ => false))))
theorem konB_ok {K : PySem.W.Frag} {x f : Str} {v : V} (h : konB K x f v = true) : ∃ u, ClX.CRead K (He.ga K x) (.type "type") ∧ ClX.CVal K (He.ga K x) (.type "type") f v u ∧ Cls K (He.ga K x) ∧ Con K (He.ga K x) f v u := by iterate
  obtain ⟨h1, h2⟩ := He.ba h
  obtain ⟨h3, h4⟩ := He.ba h2
  obtain ⟨h5, h6⟩ := He.ba h4
  obtain ⟨h7, h8⟩ := He.ba h6
  have h7 : PySem.W.copiedNames.contains f = false := by simpa using h7
  cases q : PySem.W.findCls K (.ref (He.ga K x)) (.type "type") f with
  | none => rw [q] at h8; cases h8
  | some g =>
    cases g with
    | val u =>
      cases q2 : PySem.W.findIn K (.ref (He.ga K x)) f with
      | none => rw [q, q2] at h8; cases h8
      | some o =>
        cases o with
        | none => rw [q, q2] at h8; cases h8
        | some u' =>
          rw [q, q2] at h8
          obtain ⟨e1, e2⟩ := He.ba h8
          obtain ⟨e3, e4⟩ := He.ba e2
          have e1 := of_decide_eq_true e1
          subst e1
          exact ⟨u, ⟨h1, He.eqO_ok h3⟩, ⟨q, He.relB_ok e3⟩, He.cls_ok h5, ⟨q2, He.relB_ok e3, He.eqO_ok e4, h7⟩⟩
    | _ => rw [q] at h8; cases h8
def konAll (K : PySem.W.Frag) (nm : Nat → Str) (l : List (Nat × Str × D)) : Bool := l.all fun p => match p.2.2.sc with
  | some v => konB K (nm p.1) p.2.1 v
  | none => false
def konT (l : List (Nat × Str × D)) : Nat → Str → Option D := fun c f => (l.find? fun p => p.1 == c && decide (p.2.1 = f)).map fun p => p.2.2
theorem kon_of {lm : Nat → LamI} {ce : List (Str × Addr)} {tb : Str → Addr} {K : PySem.W.Frag} {nm : Nat → Str} {l : List (Nat × Str × D)} (h : konAll K nm l = true) : KonT ⟨K, fun c => He.ga K (nm c), lm, ce, tb⟩ (konT l) := by iterate
  refine ⟨fun c f d e => ?_⟩
  obtain ⟨p, hp, e9⟩ := Option.map_eq_some_iff.mp (show ((l.find? fun p => p.1 == c && decide (p.2.1 = f)).map fun p => p.2.2) = some d from e)
  clear e
  have e1 : (p.1 == c && decide (p.2.1 = f)) = true := by simpa using List.find?_some hp
  have mem := List.mem_of_find?_eq_some hp
  clear hp
  obtain ⟨e2, e3⟩ := He.ba e1
  clear e1
  have e2 := beq_iff_eq.mp e2
  have e3 := of_decide_eq_true e3
  subst e2 e3 e9
  have a := List.all_eq_true.mp h p mem
  cases q : p.2.2.sc with
  | none => rw [q] at a; cases a
  | some v =>
    rw [q] at a
    obtain ⟨u, k1, k2, k3, k4⟩ := konB_ok a
    refine ⟨v, u, k1, k2, k3, k4, fun R F => ?_⟩
    cases h : p.2.2 with
    | non => rw [h] at q; cases q; exact rep_non
    | bl b => rw [h] at q; cases q; exact rep_bl
    | int b => rw [h] at q; cases q; exact rep_int
    | str b => rw [h] at q; cases q; exact rep_str
    | _ => rw [h] at q; cases q
def obsY (chk : PySem.W.Frag → Bool) (fn : List He5.DefA) (K : PySem.W.Frag) : He.AlD := (chk K && fn.all fun d => d.ok K, fn.map fun d => He5.fnA K (d.at_ K))
def SaysY (chk : PySem.W.Frag → Bool) (fn : List He5.DefA) (K : PySem.W.Frag) : Prop := obsY chk fn K = He5.valA fn
def obsYG (n : Nat) (chk : PySem.W.Frag → Bool) (fn : List He5.DefA) (g : Addr → Option Obj) : He.AlD := obsY chk fn (He.frG g (He5.asA g n))
def hookY (n : Nat) (chk : PySem.W.Frag → Bool) (fn : List He5.DefA) : PySem.W.Hook where
  α := He.AlD
  obs := fun s => obsYG n chk fn s.heap.get?
  val := fun _ => He5.valA fn
  says := fun _ h => ∃ K : PySem.W.Frag, K.In h ∧ SaysY chk fn K
  of := fun _ _ e => ⟨_, He.frG_in, e⟩
  keeps := fun _ _ _ ⟨K, hK, c⟩ k => ⟨K, PySem.W.Frag.In.keeps hK k, c⟩
theorem obsYG_eq {n : Nat} {chk : PySem.W.Frag → Bool} {fn : List He5.DefA} {g : Addr → Option Obj} {s : Shared} (h : ∀ a, g a = s.heap.get? a) : obsYG n chk fn g = (hookY n chk fn).obs s := by
  have e : g = s.heap.get? := funext h
  subst e
  rfl
theorem SaysY.chk {chk : PySem.W.Frag → Bool} {fn : List He5.DefA} {K : PySem.W.Frag} (c : SaysY chk fn K) : chk K = true :=
  (Bool.and_eq_true_iff.mp (congrArg (fun z : He.AlD => z.1) c)).1
theorem SaysY.fn {chk : PySem.W.Frag → Bool} {fn : List He5.DefA} {K : PySem.W.Frag} (c : SaysY chk fn K) (i : Nat) {d : He5.DefA} (h : fn[i]? = some d) :
    ∃ fd, FunD K d.name d.qual d.params d.body d.scope (d.dvs K) (d.kws K) (d.at_ K) fd := by iterate
  have h1 := (Bool.and_eq_true_iff.mp (congrArg (fun z : He.AlD => z.1) c)).2
  have h2 : (fn.map fun d => He5.fnA K (d.at_ K)) = fn.map He5.DefA.val := congrArg (fun z : He.AlD => z.2) c
  have e : He5.fnA K (d.at_ K) = d.val := by
    have z := congrArg (fun l => l[i]?) h2
    simp only [List.getElem?_map, h, Option.map_some] at z
    exact Option.some.inj z
  exact He5.DefA.funD e (List.all_eq_true.mp h1 d (List.mem_of_getElem? h))
end DV
namespace DV
open PySem PySem.Spec PyProof.Rows L2
theorem walk_dvY {law : PySem.W.OpenLaw} {st k : Nat} {q : Program} {nms : List Str} {XP : (Str → Option Value) → Heap → Prop} {chk : PySem.W.Frag → Bool} {fn : List He5.DefA} {d : DefRec} {x : Str} {m : List D → List Sl → Res Rv} {Γ : PySem.W.Frag → Gm} (hΓ : ∀ K, (Γ K).K = K)
    (h1 : law.most = some 63) (h2 : d.params.defaults = []) (h3 : Room k callerA)
    (F : ∀ (w : World) (K : PySem.W.Frag) (mg : Str → Option Value) (h : Heap), K.In h → h.Ns mainGlobals mg → SaysY chk fn K → ∃ (fa : Addr) (fd : FuncData), mg d.name = some (.ref fa) ∧ (∀ (s : Shared) (u : Value), BindsTo s fd ⟨[u], []⟩ [(x, u)]) ∧
      ∀ base : Heap, FnOk law.prog w K mg base (L2.CX law.prog w) k fa fd [x] (spM (Γ K) 1 m))
    (hm : ∀ ns : List Int, ns.length ≤ 63 → ∃ ρ S t, m [.kl (ns.map .int)] [] = .ok (.d (.bl true)) ρ S t) :
    PySem.W.WalkO q nms XP (hookY st chk fn).says law.row.toRowW d [] (fun f vs => PySem.call f vs) := by iterate
  refine Att.attach_call h1 h2 fun w z0 z1 mg mb fa o pm cd doc a us ns G Y ho hd hcd atG hobj hints len gens => ?_
  obtain ⟨K, KX, says⟩ := Y
  obtain ⟨fa', fd, at', binds, ok⟩ := F w K mg _ KX G.T.g says
  obtain rfl : fa = fa' := by
    have z := atG.symm.trans at'
    injection z with z
    injection z
  exact law_call KX G.T.g G.T.b G.T.builtins G.T.nolimit gens hobj hints (Nat.le_trans len (by decide)) h3 (fun base _ _ => ok base) binds
    (fun H _ hS => law_sp hm H a ns len (by rw [hΓ]; exact hS)) fun H e z' => cx_never H z1 e z'
/-- a check by its row -/
theorem chk_at {l : List Bool} (c : (l.all fun b => b) = true) (i : Nat) {b : Bool} (h : l[i]? = some b) : b = true := List.all_eq_true.mp c b (List.mem_of_getElem? h)
end DV
namespace DV
open PySem PySem.Spec PyProof.Rows L2
/-- what is walked: items known ahead, or the list at k of the store -/
inductive Src where
  | its (ds : List D) | ob (k : Nat)
structure WalkO (Γ : Gm) (J : It) (k : Nat) (a : Addr) (f : Nat → D → D) : Prop where
  go : ∀ i (w : Wd) (ρ S : List Sl) (σ : L2.St) xs d, Rel Γ w ρ S σ → S[k]? = some (.lst xs) → xs[i]? = some d → w.R[k]? = some a → J.go i w.H ∧ ∀ x H', J.yld i w.H x H' → ∃ w', w'.H = H' ∧ Ext w w' ∧ w'.E = w.E ∧ w'.C = w.C ∧ w'.R = w.R ∧ Good w' ∧ Rep Γ w'.R w'.F (f i d) x
  stop : ∀ i (w : Wd) (ρ S : List Sl) (σ : L2.St) xs, Rel Γ w ρ S σ → S[k]? = some (.lst xs) → w.R[k]? = some a → xs.length ≤ i → J.stop i w.H
def forOb (f : Nat → D → D) (g : Tgt) (b : M Fl) (k : Nat) : Nat → Nat → M Fl
  | 0, _ => fun _ _ => .bad
  | n + 1, i => fun ρ S => match S[k]? with
    | some (.lst xs) => (match xs[i]? with
      | none => .ok .nx ρ S false
      | some d => (match bindT g (f i d) ρ with
        | none => .bad
        | some ρ1 => match b ρ1 S with
          | .ok .nx ρ2 S2 _ => forOb f g b k n (i + 1) ρ2 S2
          | .ok .ct ρ2 S2 _ => forOb f g b k n (i + 1) ρ2 S2
          | .ok .bk ρ2 S2 _ => .ok .nx ρ2 S2 false
          | .ok (.rt r) ρ2 S2 _ => .ok (.rt r) ρ2 S2 false
          | .ex x ρ2 S2 => .ex x ρ2 S2
          | .bad => .bad))
    | _ => .bad
def fuelO (k : Nat) (S : List Sl) : Nat := match S[k]? with
  | some (.lst xs) => xs.length + 1
  | _ => 0
def cForO (f : Nat → D → D) (ci : M Src) (g : Tgt) (b : M Fl) : M Fl := fun ρ S => match ci ρ S with
  | .ok (.its ds) ρ S _ => forM g b ds ρ S
  | .ok (.ob k) ρ S _ => forOb f g b k (fuelO k S) 0 ρ S
  | .ex x ρ S => .ex x ρ S
  | .bad => .bad
section
variable (Γ : Gm) (W : WX) (f : Nat → D → D)
def CKs (w : Wd) (σ : L2.St) (Q : It → Hp → Prop) : Res Src → Prop
  | .ok (.its ds) ρ' S' _ => ∀ w' J I, Ext w w' → Rel Γ w' ρ' S' σ → I w' → Walk Γ J ds I → Q J w'.H
  | .ok (.ob k) ρ' S' _ => ∀ w' J a, Ext w w' → Rel Γ w' ρ' S' σ → w'.R[k]? = some a → WalkO Γ J k a f → Q J w'.H
  | .ex x ρ' S' => ∀ w' cls d, Ext w w' → Rel Γ w' ρ' S' σ → XOk Γ w' x cls d → W cls d σ w'.H
  | .bad => False
def tIO (c : M Src) : TI := fun σ H Q => ∃ F E C R ρ S, Rel Γ ⟨F, E, C, R, H⟩ ρ S σ ∧ CKs Γ W f ⟨F, E, C, R, H⟩ σ Q (c ρ S)
end
section
variable {X : Cx} {Γ : Gm} {W : WX} {P : List Nat} {tg iter : Expr} {body : List Stmt} {ci : M Src} {b : M Fl} {g : Tgt} {t : TG} {pos : Pos} {f : Nat → D → D}
theorem root_up {w w' : Wd} {k : Nat} {a : Addr} (x : Gr w.R w'.R w.F w'.F) (h : w.R[k]? = some a) : w'.R[k]? = some a := by
  obtain ⟨m, e⟩ := x.r
  rw [e, List.getElem?_append_left (List.getElem?_eq_some_iff.mp h).1]
  exact h
def compOb (f : Nat → D → D) (vs : List Nat) (g : Tgt) (t : M Bool) (c : M Rv) (k : Nat) : Nat → Nat → List D → M (List D)
  | 0, _, _ => fun _ _ => .bad
  | n + 1, i, acc => fun ρ S => match S[k]? with
    | some (.lst xs) => (match xs[i]? with
      | none => .ok acc ρ S false
      | some d => (match bindT g (f i d) ρ with
        | none => .bad
        | some ρ1 => match t ρ1 S with
          | .ok true ρ2 S2 _ => (match cD c ρ2 S2 with
            | .ok d' ρ3 S3 _ => if acc.length < sizeLine then compOb f vs g t c k n (i + 1) (acc ++ [d']) (wipeS ρ3 vs) S3 else .bad
            | _ => .bad)
          | .ok false ρ2 S2 _ => compOb f vs g t c k n (i + 1) acc (wipeS ρ2 vs) S2
          | _ => .bad))
    | _ => .bad
def lcEnd (r : Res (List D)) : Res Rv := match r with
  | .ok acc ρ2 S2 _ => .ok (.fr (.lst acc)) ρ2 S2 true
  | _ => .bad
def cLcO (f : Nat → D → D) (ci : M Src) (vs : List Nat) (g : Tgt) (t : M Bool) (c : M Rv) : M Rv := fun ρ S => match ci ρ S with
  | .ok (.its ds) ρ1 S1 _ => lcEnd (compM vs g t c ds [] (wipeS ρ1 vs) S1)
  | .ok (.ob k) ρ1 S1 _ => lcEnd (compOb f vs g t c k (fuelO k S1) 0 [] (wipeS ρ1 vs) S1)
  | .ex x ρ1 S1 => .ex x ρ1 S1
  | .bad => .bad
variable {elt : Expr} {vs : List Nat} {tt : M Bool} {c : M Rv}
theorem lcO_core (ht : TgOk Γ t g) (hv : ∀ j ∈ g.slots, j ∈ vs) {σ : L2.St} {H : Hp} {Q : VK} (h : tM Γ W (cLcO f ci vs g tt c) σ H Q) : tLc (tIO Γ W f ci) t (tMb Γ W0 tt) (tM Γ W0 c) vs σ H Q := by iterate
  obtain ⟨F, E, C, R, ρ, S, rel, ck⟩ := h
  unfold cLcO at ck
  cases q : ci ρ S with
  | bad => refine ⟨F, E, C, R, ρ, S, rel, ?_⟩; rw [q] at ck ⊢; exact ck
  | ex y ρ1 S1 => refine ⟨F, E, C, R, ρ, S, rel, ?_⟩; rw [q] at ck ⊢; exact ck
  | ok src ρ1 S1 t1 =>
    cases src with
    | its ds =>
      have z : tLc (tI Γ W (fun ρ S => match ci ρ S with | .ok (.its ds) ρ S t => .ok ds ρ S t | .ex x ρ S => .ex x ρ S | _ => .bad)) t (tMb Γ W0 tt) (tM Γ W0 c) vs σ H Q :=
        lc_core' ht hv ⟨F, E, C, R, ρ, S, rel, by unfold cLc; simp only [q] at ck ⊢; exact ck⟩
      obtain ⟨F', E', C', R', ρ', S', rel', ck2⟩ := z
      refine ⟨F', E', C', R', ρ', S', rel', ?_⟩
      cases q2 : ci ρ' S' with
      | bad => simp only [q2] at ck2; exact ck2
      | ex y ρ2 S2 => simp only [q2] at ck2; exact ck2
      | ok src ρ2 S2 t2 =>
        cases src with
        | its ds => simp only [q2] at ck2; exact ck2
        | ob k => simp only [q2] at ck2; exact ck2.elim
    | ob k =>
      refine ⟨F, E, C, R, ρ, S, rel, ?_⟩
      rw [q] at ck ⊢
      simp only at ck
      intro w1 J a0 x1 rel1 root1 walk Dd hD
      have n0 : H Dd = none := x1.none_of hD
      obtain ⟨w2, eH2, x2, rel2, _, _⟩ := rel1.wipe vs
      refine ⟨fun i m H' => ∃ w ρ S accD acc, w.H = H' ∧ Ext ⟨F, E, C, R, H⟩ w ∧ Rel Γ w (wipeS ρ vs) S (L2.wipe σ vs) ∧ w.R[k]? = some a0 ∧ Hid Dd (.lst acc) w ∧ RepL Γ w.R w.F accD acc ∧
          CK Γ W ⟨F, E, C, R, H⟩ σ Q (lcEnd (compOb f vs g tt c k m i accD (wipeS ρ vs) S)), ⟨fuelO k S1, ?_⟩, ?_⟩
      · have hD2 : w2.H Dd = none := by rw [eH2]; exact hD
        obtain ⟨f1, f2⟩ := rel2.good.none_of hD2
        refine ⟨{ w2 with H := upd w2.H Dd (.lst []) }, ρ1, S1, [], [], by rw [eH2], (x1.trans x2).trans (.new rel2.good hD2), rel2.move .refl (.new rel2.good hD2) rfl rfl rfl, ?_, ⟨upd_same, f1, f2⟩, by rw [RepL], ck⟩
        exact root_up (w' := { w2 with H := upd w2.H Dd (.lst []) }) x2.gr root1
      · rintro i m H2 ⟨w3, ρ3, S3, accD, acc, eH, x3, rel3, root3, hid, racc, ck3⟩
        subst eH
        cases m with
        | zero => exact ck3.elim
        | succ m =>
          simp only [compOb] at ck3
          cases q1 : S3[k]? with
          | none => simp only [q1] at ck3; exact ck3.elim
          | some s =>
            cases s with
            | lst xs =>
              simp only [q1] at ck3
              cases q0 : xs[i]? with
              | none =>
                simp only [q0] at ck3
                refine .inl ⟨walk.stop i w3 _ S3 _ xs rel3 q1 root3 (by simpa using q0), ?_⟩
                refine ck3 w3 (.ref Dd) x3 (fun z => nomatch z) rel3.unwipe ⟨[(Dd, .lst acc)], ?_, ⟨fun p hp => ?_, by simp⟩, fun p hp => ?_⟩
                · rw [Own]; exact ⟨Dd, acc, rfl, racc, rfl⟩
                · have e : p = (Dd, .lst acc) := by simpa using hp
                  subst e
                  exact ⟨hid.h, hid.f, hid.n⟩
                · have e : p = (Dd, .lst acc) := by simpa using hp
                  subst e
                  exact .inl n0
              | some d =>
                simp only [q0] at ck3
                obtain ⟨go, turn⟩ := walk.go i w3 _ S3 _ xs d rel3 q1 q0 root3
                refine .inr ⟨go, fun H' => ∃ w ρ S accD acc, w.H = H' ∧ Ext ⟨F, E, C, R, H⟩ w ∧ Rel Γ w (wipeS ρ vs) S (L2.wipe σ vs) ∧ w.R[k]? = some a0 ∧ Hid Dd (.lst acc) w ∧ RepL Γ w.R w.F accD acc ∧
                  CK Γ W ⟨F, E, C, R, H⟩ σ Q (lcEnd (compOb f vs g tt c k m (i + 1) accD (wipeS ρ vs) S)), fun H' z => ⟨m, by omega, z⟩, fun x H' y => ?_⟩
                obtain ⟨w4, eH4, x4, eE, eC, eR, g4, r4⟩ := turn x H' y
                subst eH4
                have rel4 := rel3.move x4.gr g4 eE eC eR
                cases q2 : bindT g (f i d) (wipeS ρ3 vs) with
                | none => simp only [q2] at ck3; exact ck3.elim
                | some ρ5 =>
                  simp only [q2] at ck3
                  refine ht w4 _ S3 _ _ x ρ5 _ rel4 r4 q2 fun w5 σ5 eH5 x5 eF5 eR5 rel5 same len => ⟨?_, ?_⟩
                  · rw [wipe_eq (σ := L2.wipe σ vs) len fun j hj => same j fun z => hj (hv j z)]
                    exact wipe_eq (by rw [wipe_length]) fun j hj => wipe_get hj
                  · have ew : L2.wipe σ5 vs = L2.wipe σ vs := by
                      rw [wipe_eq (σ := L2.wipe σ vs) len fun j hj => same j fun z => hj (hv j z)]
                      exact wipe_eq (by rw [wipe_length]) fun j hj => wipe_get hj
                    have x05 := (x3.trans x4).trans x5
                    have i5 := root_up x5.gr (root_up x4.gr root3)
                    have hid5 := (hid.up (fun _ z => nomatch z) x4).up (fun _ z => nomatch z) x5
                    have racc5 := repL_up x5.gr (repL_up x4.gr racc)
                    refine ⟨w5.F, w5.E, w5.C, w5.R, ρ5, S3, rel5, ?_⟩
                    cases q3 : tt ρ5 S3 with
                    | bad => simp only [q3] at ck3; exact ck3
                    | ex y ρ6 S6 => simp only [q3] at ck3; exact ck3.elim
                    | ok kk ρ6 S6 t6 =>
                      intro w6 x6 _ rel6
                      have x06 := x05.trans x6
                      have i6 := root_up x6.gr i5
                      have hid6 := hid5.up (fun _ z => nomatch z) x6
                      have racc6 := repL_up x6.gr racc5
                      cases kk with
                      | false =>
                        simp only [q3] at ck3
                        rw [if_neg Bool.false_ne_true]
                        obtain ⟨w7, eH7, x7, rel7, _, _⟩ := rel6.wipe vs
                        rw [ew] at rel7
                        exact ⟨w7, ρ6, S6, accD, acc, eH7, x06.trans x7, rel7, root_up x7.gr i6, hid6.up (fun _ z => nomatch z) x7, repL_up x7.gr racc6, ck3⟩
                      | true =>
                        simp only [q3] at ck3
                        rw [if_pos rfl]
                        refine ⟨w6.F, w6.E, w6.C, w6.R, ρ6, S6, rel6, ?_⟩
                        cases q4 : cD c ρ6 S6 with
                        | bad => simp only [q4] at ck3; exact ck3.elim
                        | ex y ρ7 S7 => simp only [q4] at ck3; exact ck3.elim
                        | ok d7 ρ7 S7 t7 =>
                          simp only [q4] at ck3
                          refine cD_ok q4 fun w7 v x7 rel7 r7 => ?_
                          have hid7 := hid6.up (fun _ z => nomatch z) x7
                          have racc7 := repL_up x7.gr racc6
                          by_cases hl : accD.length < sizeLine
                          · simp only [if_pos hl] at ck3
                            refine ⟨acc, hid7.h, by rw [← racc7.length]; exact hl, ?_⟩
                            obtain ⟨x8, rel8, hid8⟩ := hid7.put (o' := .lst (acc ++ [v])) (x06.trans x7) n0 rel7
                            obtain ⟨w9, eH9, x9, rel9, _, _⟩ := rel8.wipe vs
                            rw [ew] at rel9
                            exact ⟨w9, ρ7, S7, accD ++ [d7], acc ++ [v], eH9, x8.trans x9, rel9, root_up (w := w7) (w' := w9) x9.gr (root_up x7.gr i6), hid8.up (fun _ z => nomatch z) x9,
                              (racc7.app (ys := [d7]) (ys' := [v]) (by rw [RepL]; exact ⟨v, [], rfl, r7, by rw [RepL]⟩)).up x9.gr, ck3⟩
                          · simp only [if_neg hl] at ck3
                            exact ck3.elim
            | _ => simp only [q1] at ck3; exact ck3.elim
section
variable {scope : Scope} {own : List (Str × Nat)} {ifs : List Expr}
theorem pm_lcO (hc : X.calm = true) (hN : X.N.Nodup) (hi : PI X tg iter (tIO Γ W f ci)) (ok : BlkOk X.N X.env.scope scope own) (ht : TgOk Γ t g) (hv : ∀ j ∈ g.slots, j ∈ own.map (·.2))
    (hg : ∀ (s : Shared) (H : Hp) (C : Addr) (cl : List (Str × Addr)) (fp : List Addr), PG (X.blk s H scope (compEnvC scope cl C X.env) fp) tg t) (hts : ∀ (s : Shared) (H : Hp) (C : Addr) (cl : List (Str × Addr)) (fp : List Addr), PTs (X.blk s H scope (compEnvC scope cl C X.env) fp) ifs (tMb Γ W0 tt))
    (he : ∀ (s : Shared) (H : Hp) (C : Addr) (cl : List (Str × Addr)) (fp : List Addr), PE (X.blk s H scope (compEnvC scope cl C X.env) fp) elt (tM Γ W0 c)) (hs : ∀ x, foldedSetIterable iter X.env x = pure x) :
    PE X (.ListComp elt [⟨tg, iter, ifs, 0⟩] scope pos) (tM Γ W (cLcO f ci (own.map (·.2)) g tt c)) :=
  (pe_lc hc hN hi ok hg hts he hs).imp fun _ _ _ h => lcO_core ht hv h
end
end
def srcR (S : List Sl) : D → Option Src
  | .ob k => match S[k]? with
    | some (.lst _) => some (.ob k)
    | _ => none
  | d => d.its.map .its
def cItsO (c : M Rv) : M Src := fun ρ S => (cD c ρ S).bind fun d ρ S => match srcR S d with
  | some s => .ok s ρ S false
  | none => .bad
def esrcR (S : List Sl) : List D → Option Src
  | [.ob k] => match S[k]? with
    | some (.lst _) => some (.ob k)
    | _ => none
  | ds => (enumR ds).map .its
def cEnumO (cs : M (List D)) : M Src := fun ρ S => (cs ρ S).bind fun ds ρ S => match esrcR S ds with
  | some s => .ok s ρ S false
  | none => .bad
abbrev idF : Nat → D → D := fun _ d => d
section
variable {X : Cx} {Γ : Gm} {W : WX} {tg e : Expr} {c : M Rv} {cs : M (List D)}
/-- a list of the store as it stands -/
theorem Rel.obL {w : Wd} {ρ S : List Sl} {σ : L2.St} {k : Nat} {xs : List D} {a : Addr} (h : Rel Γ w ρ S σ) (q : S[k]? = some (.lst xs)) (r : w.R[k]? = some a) : ∃ ys, w.H a = some (.lst ys) ∧ RepL Γ w.R w.F xs ys := by
  obtain ⟨a1, A, B, b, h1, h2, h3, _⟩ := h.own.sto_at q
  rw [r] at h1
  cases h1
  obtain ⟨v, ev, ow⟩ := h3
  rw [Own] at ow
  obtain ⟨a2, ys, e1, e2, e3⟩ := ow
  cases ev
  cases e1
  subst e3
  exact ⟨ys, h.cellsH h2 (a, .lst ys) (by simp), e2⟩
theorem walkO_list {K : PySem.W.Frag} {k : Nat} {a : Addr} : WalkO Γ (Itl K a) k a idF where
  go := fun i w ρ S σ xs d rel q e r => by
    obtain ⟨ys, ha, l⟩ := rel.obL q r
    obtain ⟨v, h1, h2⟩ := l.get e
    refine ⟨⟨ys, v, SqL.of ha, h1⟩, fun x H' ⟨e1, e2⟩ => ?_⟩
    subst e1
    have z := e2 ys (SqL.of ha)
    rw [h1] at z
    cases z
    exact ⟨w, rfl, .refl w, rfl, rfl, rfl, rel.good, h2⟩
  stop := fun i w ρ S σ xs rel q r hl => by
    obtain ⟨ys, ha, l⟩ := rel.obL q r
    exact ⟨ys, SqL.of ha, by rw [← l.length]; exact hl⟩
theorem pmi_itsO (hK : Γ.K = X.K) (h : PE X e (tM Γ W c)) : PI X tg e (tIO Γ W idF (cItsO c)) := by iterate
  refine ((pmi_its (W := W) (tg := tg) hK h).or (pi_list h)).imp fun σ H Q ⟨F, E, C, R, ρ, S, rel, ck⟩ => ?_
  unfold cItsO at ck
  cases q : cD c ρ S with
  | bad => rw [q] at ck; exact ck.elim
  | ex y ρ1 S1 =>
    rw [q] at ck
    exact .inl ⟨F, E, C, R, ρ, S, rel, by unfold cIts; rw [q]; exact ck⟩
  | ok d ρ1 S1 t =>
    rw [q, Res.bind_ok] at ck
    have plain : ∀ xs, d.its = some xs → srcR S1 d = some (.its xs) → tI Γ W (cIts c) σ H Q := fun xs e1 e2 => by
      simp only [e2] at ck
      refine ⟨F, E, C, R, ρ, S, rel, ?_⟩
      unfold cIts
      rw [q, Res.bind_ok]
      simp only [e1]
      exact ck
    by_cases ho : ∃ k, d = .ob k
    · obtain ⟨k, rfl⟩ := ho
      simp only [srcR] at ck
      cases q1 : S1[k]? with
      | none => simp only [q1] at ck; exact ck.elim
      | some s =>
        cases s with
        | lst xs =>
          simp only [q1] at ck
          refine .inr ⟨F, E, C, R, ρ, S, rel, cD_ok q fun w' v x r o => ?_⟩
          rw [Rep] at o
          obtain ⟨a, e1, e2⟩ := o
          obtain ⟨ys, ha, l⟩ := r.obL q1 e1
          exact ⟨a, e2, ⟨ys, SqL.of ha⟩, ck w' _ a x r e1 walkO_list⟩
        | _ => simp only [q1] at ck; exact ck.elim
    · have e2 : srcR S1 d = d.its.map .its := by
        cases d <;> first | rfl | exact absurd ⟨_, rfl⟩ ho
      cases q1 : d.its with
      | none => rw [e2, q1] at ck; exact ck.elim
      | some xs => exact .inl (plain xs q1 (by rw [e2, q1]; rfl))
end
end DV
namespace DV
open PySem PySem.Spec PyProof.Rows L2
end DV
namespace DV
open PySem PySem.Spec PyProof.Rows L2
abbrev XQ := Exn → List Sl → List Sl → Prop
def wr {α : Type} (r : Res α) (Q : α → List Sl → List Sl → Prop) (E : XQ) : Prop := match r with
  | .ok a ρ S _ => Q a ρ S
  | .ex x ρ S => E x ρ S
  | .bad => False
def wp {α : Type} (c : M α) (ρ S : List Sl) (Q : α → List Sl → List Sl → Prop) (E : XQ) : Prop := wr (c ρ S) Q E
def wm (m : List D → List Sl → Res Rv) (ds : List D) (S : List Sl) (Q : Rv → List Sl → Prop) (E : Exn → List Sl → Prop) : Prop := wr (m ds S) (fun r _ S => Q r S) (fun x _ S => E x S)
/-- a call: the caller's frame stays -/
def wA (m : List D → List Sl → Res Rv) (ds : List D) (ρ S : List Sl) (Q : Rv → List Sl → List Sl → Prop) (E : XQ) : Prop := wm m ds S (fun r S' => Q r ρ S') (fun x S' => E x ρ S')
def wO {α : Type} (o : Option α) (P : α → Prop) : Prop := ∃ a, o = some a ∧ P a
def wO2 {α β : Type} (o : Option (α × β)) (P : α → β → Prop) : Prop := ∃ a b, o = some (a, b) ∧ P a b
def wC (r : Rv) (ρ S : List Sl) (P : D → Prop) : Prop := ∃ d, cont ρ S r = some d ∧ P d
def wCs (rs : List Rv) (ρ S : List Sl) (P : List D → Prop) : Prop := ∃ ds, conts ρ S rs = some ds ∧ P ds
def wB (r : Rv) (P : Bool → Prop) : Prop := ∃ b, r = .d (.bl b) ∧ P b
def wI (b : Bool) (p q : Prop) : Prop := if b = true then p else q
def wG (p q : Prop) : Prop := p ∧ q
def wF (r : Rv) (ρ S : List Sl) (Q : D → List Sl → List Sl → Prop) : Prop := wr (toD r ρ S) Q fun _ _ _ => False
def wV (r : Rv) (ρ S : List Sl) (Q : Rv → List Sl → List Sl → Prop) : Prop := wr (outR r ρ S) Q fun _ _ _ => False
def wS (own : Bool) (i : Nat) (r : Rv) (ρ S : List Sl) (Q : Fl → List Sl → List Sl → Prop) : Prop := wr (setS own i r ρ S) Q fun _ _ _ => False
def wN (f : Fl) (p : Prop) (q : Fl → Prop) : Prop := match f with
  | .nx => p
  | f => q f
def wP (r : Rv) (ρ S : List Sl) (P : Sl → Prop) : Prop := ∃ s, getP r ρ S = some s ∧ P s
def wU (r : Rv) (s : Sl) (ρ S : List Sl) (Q : List Sl → List Sl → Prop) : Prop := Q (putP r s ρ S).1 (putP r s ρ S).2
def wArg (l : List D) (P : List D → Prop) : Prop := P l
def wX {α : Type} (R : α → Prop) (P : α → Prop) : Prop := ∃ a, R a ∧ P a
def wSto (i : Nat) (r : Rv) (ρ S : List Sl) (Q : Fl → List Sl → List Sl → Prop) : Prop := wr (setSto i r ρ S) Q fun _ _ _ => False
def wStoE (r : Rv) (ρ S : List Sl) (Q : Rv → List Sl → List Sl → Prop) : Prop := wr (stoR r ρ S) Q fun _ _ _ => False
def wPar (i j : Nat) (ds : List D) (ρ S : List Sl) (Q : Fl → List Sl → List Sl → Prop) : Prop := ∃ d e, ds = [d, e] ∧ i < ρ.length ∧ j < ρ.length ∧ Q .nx ((ρ.set i (.val d)).set j (.val e)) S
def wPar3 (i j k : Nat) (ds : List D) (ρ S : List Sl) (Q : Fl → List Sl → List Sl → Prop) : Prop := ∃ d e f, ds = [d, e, f] ∧ i < ρ.length ∧ j < ρ.length ∧ k < ρ.length ∧ Q .nx (((ρ.set i (.val d)).set j (.val e)).set k (.val f)) S
def wEnd (f : Fl) (S : List Sl) (Q : Rv → List Sl → Prop) : Prop := match f with
  | .nx => Q (.d .non) S
  | .rt r => Q r S
  | _ => False
section
variable {α β : Type} {ρ ρ' S S' T xs ys : List Sl} {E : XQ} {s u : Sl} {i j n : Nat}
def nt (xs : List Sl) (i : Nat) (s : Sl) : Prop := xs[i]? = some s
def st (xs : List Sl) (i : Nat) (s : Sl) (ys : List Sl) : Prop := i < xs.length ∧ xs.set i s = ys
theorem nt_z : nt (s :: xs) 0 s := rfl
theorem nt_s (h : nt xs n s) : nt (u :: xs) (n + 1) s := by rw [nt, List.getElem?_cons_succ]; exact h
theorem nt_app (h : nt xs n s) : nt (T ++ xs) (T.length + n) s := by rw [nt, List.getElem?_append_right (by omega), Nat.add_sub_cancel_left]; exact h
theorem nt_app0 (h : nt xs 0 s) : nt (T ++ xs) T.length s := nt_app (n := 0) h
theorem st_z : st (u :: xs) 0 s (s :: xs) := ⟨Nat.succ_pos _, rfl⟩
theorem st_s (h : st xs n s ys) : st (u :: xs) (n + 1) s (u :: ys) := ⟨Nat.succ_lt_succ h.1, by rw [List.set_cons_succ, h.2]⟩
theorem st_app (h : st xs n s ys) : st (T ++ xs) (T.length + n) s (T ++ ys) := ⟨by rw [List.length_append]; have := h.1; omega, by rw [List.set_append_right _ _ (by omega), Nat.add_sub_cancel_left, h.2]⟩
theorem st_app0 (h : st xs 0 s ys) : st (T ++ xs) T.length s (T ++ ys) := st_app (n := 0) h
/-- a new thing at the store's end -/
def pu (S : List Sl) (s : Sl) (n : Nat) (S' : List Sl) : Prop := S.length = n ∧ S ++ [s] = S'
theorem pu_nil : pu [] s 0 [s] := ⟨rfl, rfl⟩
theorem pu_cons (h : pu S s n S') : pu (u :: S) s (n + 1) (u :: S') := ⟨by rw [List.length_cons, h.1], by rw [List.cons_append, h.2]⟩
theorem pu_app (h : pu S s n S') : pu (T ++ S) s (T.length + n) (T ++ S') := ⟨by rw [List.length_append, h.1], by rw [List.append_assoc, h.2]⟩
theorem pu_var : pu T s T.length (T ++ [s]) := ⟨rfl, rfl⟩
theorem wr_bind {r : Res α} {f : α → List Sl → List Sl → Res β} {Q : β → List Sl → List Sl → Prop} (h : wr r (fun a ρ S => wr (f a ρ S) Q E) E) : wr (r.bind f) Q E := by
  cases r with
  | ok a ρ S t =>
    have h : wr (f a ρ S) Q E := h
    show wr ((f a ρ S).addt t) Q E
    cases q : f a ρ S with
    | ok b ρ S t => rw [q] at h; exact h
    | ex x ρ S => rw [q] at h; exact h
    | bad => rw [q] at h; exact h
  | ex x ρ S => exact h
  | bad => exact h
theorem wr_cons {r : Res α} {Q Q' : α → List Sl → List Sl → Prop} {E' : XQ} (h : wr r Q E) (k : ∀ a ρ S, Q a ρ S → Q' a ρ S) (k2 : ∀ a ρ S, E a ρ S → E' a ρ S) : wr r Q' E' := by
  cases r with
  | ok a ρ S t => exact k _ _ _ h
  | ex x ρ S => exact k2 _ _ _ h
  | bad => exact h
theorem wr_noE {r : Res α} {Q : α → List Sl → List Sl → Prop} (h : wr r Q fun _ _ _ => False) : wr r Q E := wr_cons h (fun _ _ _ h => h) fun _ _ _ h => h.elim
theorem wm_cut {m : List D → List Sl → Res Rv} {ds : List D} {Q Q' : Rv → List Sl → Prop} {E : Exn → List Sl → Prop} (h : wm m ds S Q fun _ _ => False) (k : ∀ a S, Q a S → Q' a S) : wm m ds S Q' E := wr_cons h (fun a _ S h => k a S h) fun _ _ _ h => h.elim
theorem wm_ok {m : List D → List Sl → Res Rv} {ds : List D} {Q : Rv → List Sl → Prop} {E : Exn → List Sl → Prop} {r : Rv} {t : Bool} (e : m ds S = .ok r ρ S' t) (h : Q r S') : wm m ds S Q E := by rw [wm, e]; exact h
theorem wA_mk {m : List D → List Sl → Res Rv} {ds : List D} {Q : Rv → List Sl → List Sl → Prop} (h : wm m ds S (fun r S' => Q r ρ S') (fun x S' => E x ρ S')) : wA m ds ρ S Q E := h
theorem wr_at {r : Res Rv} {Q : Rv → List Sl → List Sl → Prop} (h : wr r (fun a _ S => Q a ρ S) (fun x _ S => E x ρ S)) : wr (r.at ρ) Q E := by
  cases r <;> exact h
variable {P : D → Prop}
theorem wO_mk {o : Option α} {P : α → Prop} {a : α} (e : o = some a) (h : P a) : wO o P := ⟨a, e, h⟩
theorem wC_int {a} (h : P (.int a)) : wC (.d (.int a)) ρ S P := ⟨_, rfl, h⟩
theorem wC_str {a} (h : P (.str a)) : wC (.d (.str a)) ρ S P := ⟨_, rfl, h⟩
theorem wC_bl {a} (h : P (.bl a)) : wC (.d (.bl a)) ρ S P := ⟨_, rfl, h⟩
theorem wC_non (h : P .non) : wC (.d .non) ρ S P := ⟨_, rfl, h⟩
theorem wC_ty {a} (h : P (.ty a)) : wC (.d (.ty a)) ρ S P := ⟨_, rfl, h⟩
theorem wC_cl {a} (h : P (.cl a)) : wC (.d (.cl a)) ρ S P := ⟨_, rfl, h⟩
theorem wC_lst {a} (h : P (.lst a)) : wC (.d (.lst a)) ρ S P := ⟨_, rfl, h⟩
theorem wC_kl {a} (h : P (.kl a)) : wC (.d (.kl a)) ρ S P := ⟨_, rfl, h⟩
theorem wC_tup {a} (h : P (.tup a)) : wC (.d (.tup a)) ρ S P := ⟨_, rfl, h⟩
theorem wC_kt {a} (h : P (.kt a)) : wC (.d (.kt a)) ρ S P := ⟨_, rfl, h⟩
theorem wC_dK {a} (h : P (.dK a)) : wC (.d (.dK a)) ρ S P := ⟨_, rfl, h⟩
theorem wC_ins {c a} (h : P (.ins c a)) : wC (.d (.ins c a)) ρ S P := ⟨_, rfl, h⟩
theorem wC_frl {a} (h : P (.lst a)) : wC (.fr (.lst a)) ρ S P := ⟨_, rfl, h⟩
theorem wC_ob {a} (e : nt S j (.lst a)) (h : P (.lst a)) : wC (.d (.ob j)) ρ S P := ⟨.lst a, by have e : S[j]? = _ := e; simp only [cont, e], h⟩
theorem wC_obK {a} (e : nt S j (.dK a)) (h : P (.dK a)) : wC (.d (.ob j)) ρ S P := ⟨.dK a, by have e : S[j]? = _ := e; simp only [cont, e], h⟩
theorem wC_env {a} (e : nt ρ i (.lst a)) (h : P (.lst a)) : wC (.env i) ρ S P := ⟨.lst a, by have e : ρ[i]? = _ := e; simp only [cont, e]; rfl, h⟩
theorem wC_envK {a} (e : nt ρ i (.dK a)) (h : P (.dK a)) : wC (.env i) ρ S P := ⟨.dK a, by have e : ρ[i]? = _ := e; simp only [cont, e]; rfl, h⟩
theorem wC_envT {a} (e : nt ρ i (.dT a)) (h : P (.dT a)) : wC (.env i) ρ S P := ⟨.dT a, by have e : ρ[i]? = _ := e; simp only [cont, e]; rfl, h⟩
theorem wCs_nil {P : List D → Prop} (h : P []) : wCs [] ρ S P := ⟨_, rfl, h⟩
theorem wCs_cons {P : List D → Prop} {r : Rv} {rs : List Rv} (h : wC r ρ S fun d => wCs rs ρ S fun ds => P (d :: ds)) : wCs (r :: rs) ρ S P := by
  obtain ⟨d, e, ds, e2, h⟩ := h
  exact ⟨d :: ds, by simp only [conts, e, e2], h⟩
theorem wB_mk {P : Bool → Prop} {b : Bool} (h : P b) : wB (.d (.bl b)) P := ⟨b, rfl, h⟩
theorem wI_t {p q : Prop} (h : p) : wI true p q := by rw [wI, if_pos rfl]; exact h
theorem wI_f {p q : Prop} (h : q) : wI false p q := by rw [wI, if_neg (by decide)]; exact h
theorem wI_pos {b : Bool} {p q : Prop} (e : b = true) (h : p) : wI b p q := by rw [wI, if_pos e]; exact h
theorem wI_neg {b : Bool} {p q : Prop} (e : b = false) (h : q) : wI b p q := by rw [wI, e]; exact h
theorem wG_mk {p q : Prop} (h : p) (k : q) : wG p q := ⟨h, k⟩
variable {QD : D → List Sl → List Sl → Prop} {QR : Rv → List Sl → List Sl → Prop} {QF : Fl → List Sl → List Sl → Prop} {QB : Bool → List Sl → List Sl → Prop}
theorem wF_d {d : D} (h : QD d ρ S) : wF (.d d) ρ S QD := h
theorem wF_frl {a} (h : QD (.lst a) ρ S) : wF (.fr (.lst a)) ρ S QD := h
theorem wF_fr {s : Sl} {d : D} (e : s.frz = d) (h : QD d ρ S) : wF (.fr s) ρ S QD := by subst e; exact h
theorem wF_env {s : Sl} (e : nt ρ i s) (o : s.own? = true) (e2 : st ρ i (.val s.frz) ρ') (h : QD s.frz ρ' S) : wF (.env i) ρ S QD := by
  have e : ρ[i]? = some s := e
  obtain ⟨_, rfl⟩ := e2
  simp only [wF, toD, e, o, if_true]
  exact h
theorem wV_d {d : D} (h : QR (.d d) ρ S) : wV (.d d) ρ S QR := h
theorem wV_fr {s : Sl} (h : QR (.fr s) ρ S) : wV (.fr s) ρ S QR := h
theorem wV_env {s : Sl} (e : nt ρ i s) (o : s.own? = true) (e2 : st ρ i .emp ρ') (h : QR (.fr s) ρ' S) : wV (.env i) ρ S QR := by
  have e : ρ[i]? = some s := e
  obtain ⟨_, rfl⟩ := e2
  simp only [wV, outR, e, o, if_true]
  exact h
theorem wS_d {own : Bool} {d : D} (e : st ρ i (.val d) ρ') (h : QF .nx ρ' S) : wS own i (.d d) ρ S QF := by
  obtain ⟨l, rfl⟩ := e
  have : setS own i (.d d) ρ S = .ok .nx (ρ.set i (.val d)) S (false || false) := by
    cases own <;> simp only [setS, toD, Res.bind, if_pos l, Res.addt]
  rw [wS, this]
  exact h
theorem wS_frt {s : Sl} (e : st ρ i s ρ') (h : QF .nx ρ' S) : wS true i (.fr s) ρ S QF := by
  obtain ⟨l, rfl⟩ := e
  simp only [wS, setS, if_pos l]
  exact h
theorem wS_frf {s : Sl} {d : D} (e0 : s.frz = d) (e : st ρ i (.val d) ρ') (h : QF .nx ρ' S) : wS false i (.fr s) ρ S QF := by
  obtain ⟨l, rfl⟩ := e
  subst e0
  simp only [wS, setS, toD, Res.bind, if_pos l, Res.addt]
  exact h
theorem wS_frfl {a} (e : st ρ i (.val (.lst a)) ρ') (h : QF .nx ρ' S) : wS false i (.fr (.lst a)) ρ S QF := wS_frf rfl e h
theorem wS_envf {ρ1 : List Sl} {s : Sl} (e0 : nt ρ j s) (o : s.own? = true) (e1 : st ρ j (.val s.frz) ρ1) (e : st ρ1 i (.val s.frz) ρ') (h : QF .nx ρ' S) {own : Bool} : wS own i (.env j) ρ S QF := by
  have e0 : ρ[j]? = some s := e0
  obtain ⟨l1, rfl⟩ := e1
  obtain ⟨l, rfl⟩ := e
  have : setS own i (.env j) ρ S = .ok .nx ((ρ.set j (.val s.frz)).set i (.val s.frz)) S (true || false) := by
    cases own <;> simp only [setS, toD, e0, o, if_true, Res.bind, if_pos l, Res.addt]
  rw [wS, this]
  exact h
theorem wN_nx {p : Prop} {q : Fl → Prop} (h : p) : wN .nx p q := h
theorem wN_rt {p : Prop} {q : Fl → Prop} {r : Rv} (h : q (.rt r)) : wN (.rt r) p q := h
theorem wN_bk {p : Prop} {q : Fl → Prop} (h : q .bk) : wN .bk p q := h
theorem wN_ct {p : Prop} {q : Fl → Prop} (h : q .ct) : wN .ct p q := h
theorem wP_ob {P : Sl → Prop} {s : Sl} (e : nt S j s) (o : s.one = true) (h : P s) : wP (.d (.ob j)) ρ S P := ⟨s, by
  have e : S[j]? = some s := e
  simp only [getP, e, Option.bind_some, Sl.one?, o, if_true], h⟩
theorem wP_env {P : Sl → Prop} {s : Sl} (e : nt ρ i s) (o : s.one = true) (h : P s) : wP (.env i) ρ S P := ⟨s, by
  have e : ρ[i]? = some s := e
  simp only [getP, e, Option.bind_some, Sl.one?, o, if_true], h⟩
theorem wU_ob {Q : List Sl → List Sl → Prop} {s : Sl} (e : st S j s S') (h : Q ρ S') : wU (.d (.ob j)) s ρ S Q := by obtain ⟨_, rfl⟩ := e; exact h
theorem wU_env {Q : List Sl → List Sl → Prop} {s : Sl} (e : st ρ i s ρ') (h : Q ρ' S) : wU (.env i) s ρ S Q := by obtain ⟨_, rfl⟩ := e; exact h
theorem wEnd_nx {Q : Rv → List Sl → Prop} (h : Q (.d .non) S) : wEnd .nx S Q := h
theorem wEnd_rt {Q : Rv → List Sl → Prop} {r : Rv} (h : Q r S) : wEnd (.rt r) S Q := h
def _root_.DV.D.asInt : D → Option Int
  | .int i => some i
  | _ => none
theorem wO_asInt {a : Int} {P : Int → Prop} (h : P a) : wO (D.asInt (.int a)) P := ⟨_, rfl, h⟩
theorem wp_name {d : D} (e : nt ρ i (.val d)) (h : QR (.d d) ρ S) : wp (cName i) ρ S QR E := by
  have e : ρ[i]? = _ := e
  simp only [wp, cName, e]
  exact h
theorem wp_nameO {s : Sl} (e : nt ρ i s) (o : s.one = true) (h : QR (.env i) ρ S) : wp (cName i) ρ S QR E := by
  have e : ρ[i]? = _ := e
  cases s <;> first | (cases o; done) | (simp only [wp, cName, e]; exact h)
theorem wp_nameI {c fs} (e : nt ρ i (.ins c fs)) (h : QR (.env i) ρ S) : wp (cName i) ρ S QR E := by
  have e : ρ[i]? = _ := e
  simp only [wp, cName, e]
  exact h
theorem wp_C {d : D} (h : QR (.d d) ρ S) : wp (cC d) ρ S QR E := h
theorem wr_two {g : D → D → Option Rv} {ra rb : Rv} (h : wC ra ρ S fun d1 => wC rb ρ S fun d2 => wO (g d1 d2) fun r => QR r ρ S) : wr (match cont ρ S ra, cont ρ S rb with
  | some d1, some d2 => lift (g d1 d2) ρ S
  | _, _ => .bad) QR E := by
  obtain ⟨d1, e1, d2, e2, r, e3, h⟩ := h
  simp only [e1, e2, e3, lift]
  exact h
theorem wp_bin {g : D → D → Option Rv} {ca cb : M Rv} (h : wp ca ρ S (fun ra ρ S => wp cb ρ S (fun rb ρ S => wC ra ρ S fun d1 => wC rb ρ S fun d2 => wO (g d1 d2) fun r => QR r ρ S) E) E) : wp (cBin g ca cb) ρ S QR E :=
  wr_bind (wr_cons h (fun _ _ _ h => wr_bind (wr_cons h (fun _ _ _ h => wr_two h) fun _ _ _ h => h)) fun _ _ _ h => h)
theorem wp_chain {g g' : D → D → Option Rv} {ca cb cc : M Rv} (h : wp ca ρ S (fun ra ρ S => wp cb ρ S (fun rb ρ S => wC ra ρ S fun d1 => wC rb ρ S fun d2 => wO (g d1 d2) fun r => wB r fun b => wI b (wp cc ρ S (fun rc ρ S => wC rb ρ S fun d2 => wC rc ρ S fun d3 => wO (g' d2 d3) fun r => QR r ρ S) E) (QR (.d (.bl false)) ρ S)) E) E) : wp (cChain g g' ca cb cc) ρ S QR E := by
  refine wr_bind (wr_cons h (fun ra _ _ h => wr_bind (wr_cons h (fun rb ρ S h => ?_) fun _ _ _ h => h)) fun _ _ _ h => h)
  obtain ⟨d1, e1, d2, e2, r, e3, b, e4, h⟩ := h
  subst e4
  cases b with
  | false => simp only [e1, e2, e3]; exact h
  | true =>
    simp only [e1, e2, e3]
    exact wr_bind (wr_cons h (fun rc ρ S h => wr_two h) fun _ _ _ h => h)
theorem wp_tst {c : M Rv} (h : wp c ρ S (fun r ρ S => wB r fun b => QB b ρ S) E) : wp (cTst c) ρ S QB E :=
  wr_bind (wr_cons h (fun _ _ _ ⟨b, e, h⟩ => by subst e; exact h) fun _ _ _ h => h)
theorem wr_tru {α : Type} {r : Rv} {Q : α → List Sl → List Sl → Prop} {f : Bool → Res α} (h : wC r ρ S fun d => wO (truD d) fun b => wr (f b) Q E) : wr (match (cont ρ S r).bind truD with
  | some b => f b
  | none => .bad) Q E := by
  obtain ⟨d, e1, b, e2, h⟩ := h
  simp only [e1, Option.bind_some, e2]
  exact h
theorem wp_tru {c : M Rv} (h : wp c ρ S (fun r ρ S => wC r ρ S fun d => wO (truD d) fun b => QB b ρ S) E) : wp (cTru c) ρ S QB E :=
  wr_bind (wr_cons h (fun _ _ _ h => wr_tru h) fun _ _ _ h => h)
theorem wp_notB {c : M Bool} (h : wp c ρ S (fun b ρ S => QB (!b) ρ S) E) : wp (cNotB c) ρ S QB E := wr_bind (wr_cons h (fun _ _ _ h => h) fun _ _ _ h => h)
theorem wr_if {α : Type} {b : Bool} {p q : Res α} {Q : α → List Sl → List Sl → Prop} (h : wI b (wr p Q E) (wr q Q E)) : wr (if b = true then p else q) Q E := by
  cases b <;> exact h
theorem wp_andB {c d : M Bool} (h : wp c ρ S (fun b ρ S => wI b (wp d ρ S QB E) (QB false ρ S)) E) : wp (cAndB c d) ρ S QB E := wr_bind (wr_cons h (fun _ _ _ h => wr_if h) fun _ _ _ h => h)
theorem wp_orB {c d : M Bool} (h : wp c ρ S (fun b ρ S => wI b (QB true ρ S) (wp d ρ S QB E)) E) : wp (cOrB c d) ρ S QB E := wr_bind (wr_cons h (fun _ _ _ h => wr_if h) fun _ _ _ h => h)
theorem wr_pick {r : Rv} {p q : Res Rv} (h : wC r ρ S fun d => wO (truD d) fun b => wI b (wr p QR E) (wr q QR E)) : wr (match (cont ρ S r).bind truD with
  | some true => p
  | some false => q
  | none => .bad) QR E := by
  obtain ⟨d, e1, b, e2, h⟩ := h
  cases b
  · simp only [e1, Option.bind_some, e2]; exact h
  · simp only [e1, Option.bind_some, e2]; exact h
theorem wp_and {ca cb : M Rv} (h : wp ca ρ S (fun ra ρ S => wC ra ρ S fun d => wO (truD d) fun b => wI b (wp cb ρ S QR E) (QR ra ρ S)) E) : wp (cAnd ca cb) ρ S QR E := wr_bind (wr_cons h (fun _ _ _ h => wr_pick h) fun _ _ _ h => h)
theorem wp_or {ca cb : M Rv} (h : wp ca ρ S (fun ra ρ S => wC ra ρ S fun d => wO (truD d) fun b => wI b (QR ra ρ S) (wp cb ρ S QR E)) E) : wp (cOr ca cb) ρ S QR E := wr_bind (wr_cons h (fun _ _ _ h => wr_pick h) fun _ _ _ h => h)
theorem wp_not {ca : M Rv} (h : wp ca ρ S (fun ra ρ S => wC ra ρ S fun d => wO (truD d) fun b => QR (.d (.bl (!b))) ρ S) E) : wp (cNot ca) ρ S QR E :=
  wr_bind (wr_cons h (fun _ _ _ ⟨d, e, b, e2, h⟩ => by simp only [e, Option.bind_some, e2]; exact h) fun _ _ _ h => h)
theorem wp_if {t : M Bool} {ca cb : M Rv} (h : wp t ρ S (fun b ρ S => wI b (wp ca ρ S QR E) (wp cb ρ S QR E)) E) : wp (cIf t ca cb) ρ S QR E := wr_bind (wr_cons h (fun _ _ _ h => wr_if h) fun _ _ _ h => h)
theorem wp_neg {c : M Rv} (h : wp c ρ S (fun r ρ S => wC r ρ S fun d => wO (D.asInt d) fun i => QR (.d (.int (-i))) ρ S) E) : wp (cNeg c) ρ S QR E := wr_bind (wr_cons h (fun _ _ _ ⟨d, e, i, e2, h⟩ => by
    cases d <;> first | (cases e2; simp only [e]; exact h) | cases e2) fun _ _ _ h => h)
theorem wp_yes (h : QB true ρ S) : wp cYes ρ S QB E := h
theorem wp_D {c : M Rv} (h : wp c ρ S (fun r ρ S => wF r ρ S QD) E) : wp (cD c) ρ S QD E := wr_bind (wr_cons h (fun _ _ _ h => wr_noE h) fun _ _ _ h => h)
variable {QL : List D → List Sl → List Sl → Prop} {QRs : List Rv → List Sl → List Sl → Prop}
theorem wp_nilD (h : QL [] ρ S) : wp cNilD ρ S QL E := h
theorem wp_consD {c : M Rv} {cs : M (List D)} (h : wp c ρ S (fun r ρ S => wF r ρ S fun d ρ S => wp cs ρ S (fun ds ρ S => QL (d :: ds) ρ S) E) E) : wp (cConsD c cs) ρ S QL E :=
  wr_bind (wr_cons (wp_D h) (fun _ _ _ h => wr_bind (wr_cons h (fun _ _ _ h => h) fun _ _ _ h => h)) fun _ _ _ h => h)
theorem wp_nilR (h : QRs [] ρ S) : wp cNilR ρ S QRs E := h
theorem wp_consR {c : M Rv} {cs : M (List Rv)} (h : wp c ρ S (fun d ρ S => wp cs ρ S (fun ds ρ S => QRs (d :: ds) ρ S) E) E) : wp (cConsR c cs) ρ S QRs E :=
  wr_bind (wr_cons h (fun _ _ _ h => wr_bind (wr_cons h (fun _ _ _ h => h) fun _ _ _ h => h)) fun _ _ _ h => h)
theorem wp_tup {cs : M (List D)} (h : wp cs ρ S (fun ds ρ S => wG (ds.length ≤ sizeLine) (QR (.d (.tup ds)) ρ S)) E) : wp (cTup cs) ρ S QR E := wr_bind (wr_cons h (fun _ _ _ h => by rw [if_pos h.1]; exact h.2) fun _ _ _ h => h)
theorem wp_lst {cs : M (List D)} (h : wp cs ρ S (fun ds ρ S => wG (ds.length ≤ sizeLine) (QR (.fr (.lst ds)) ρ S)) E) : wp (cLst cs) ρ S QR E := wr_bind (wr_cons h (fun _ _ _ h => by rw [if_pos h.1]; exact h.2) fun _ _ _ h => h)
theorem wr_lift {o : Option Rv} (h : wO o fun r => QR r ρ S) : wr (lift o ρ S) QR E := by
  obtain ⟨r, e, h⟩ := h
  subst e
  exact h
theorem wp_blt {g : List D → Option Rv} {cs : M (List Rv)} (h : wp cs ρ S (fun rs ρ S => wCs rs ρ S fun ds => wO (g ds) fun r => QR r ρ S) E) : wp (cBlt g cs) ρ S QR E :=
  wr_bind (wr_cons h (fun _ _ _ ⟨ds, e, h⟩ => by simp only [e]; exact wr_lift h) fun _ _ _ h => h)
theorem wp_mt {T : String} {g : D → List D → Option Rv} {co : M Rv} {cs : M (List Rv)} (h : wp co ρ S (fun ro ρ S => wC ro ρ S fun d0 => wG (tyD T d0 = true) (wp cs ρ S (fun rs ρ S => wC ro ρ S fun d => wCs rs ρ S fun ds => wO (g d ds) fun r => QR r ρ S) E)) E) : wp (cMt T g co cs) ρ S QR E := by
  refine wr_bind (wr_cons h (fun _ _ _ ⟨d0, e, t, h⟩ => ?_) fun _ _ _ h => h)
  simp only [e, if_pos t]
  exact wr_bind (wr_cons h (fun _ _ _ ⟨d, e, ds, e2, h⟩ => by simp only [e, e2]; exact wr_lift h) fun _ _ _ h => h)
variable {QO : Option Int → List Sl → List Sl → Prop}
theorem wp_noP (h : QO none ρ S) : wp cNoP ρ S QO E := h
theorem wp_part {c : M Rv} (h : wp c ρ S (fun r ρ S => wC r ρ S fun d => wO (partD d) fun o => QO o ρ S) E) : wp (cPart c) ρ S QO E :=
  wr_bind (wr_cons h (fun _ _ _ ⟨d, e, o, e2, h⟩ => by simp only [e, Option.bind_some, e2]; exact h) fun _ _ _ h => h)
theorem wp_sl {g : D → Option Int → Option Int → Option Rv} {ce : M Rv} {cl ch : M (Option Int)} (h : wp ce ρ S (fun re ρ S => wp cl ρ S (fun lo ρ S => wp ch ρ S (fun hi ρ S => wC re ρ S fun d => wO (g d lo hi) fun r => QR r ρ S) E) E) E) : wp (cSl g ce cl ch) ρ S QR E :=
  wr_bind (wr_cons h (fun _ _ _ h => wr_bind (wr_cons h (fun _ _ _ h => wr_bind (wr_cons h (fun _ _ _ ⟨d, e, h⟩ => by simp only [e]; exact wr_lift h) fun _ _ _ h => h)) fun _ _ _ h => h)) fun _ _ _ h => h)
theorem wp_call {m : List D → List Sl → Res Rv} {n j : Nat} {gD : List D → List D → List D} {cs ks : M (List D)} (h : wp cs ρ S (fun ds ρ S => wp ks ρ S (fun es ρ S => wG (ds.length = n ∧ es.length = j) (wArg (gD ds es) fun as => wA m as ρ S QR E)) E) E) : wp (cCall m n j gD cs ks) ρ S QR E :=
  wr_bind (wr_cons h (fun _ _ _ h => wr_bind (wr_cons h (fun _ _ _ ⟨l, h⟩ => by rw [if_pos l]; exact wr_at h) fun _ _ _ h => h)) fun _ _ _ h => h)
theorem wp_fld {T : Nat → Str → Bool} {f : Str} {co : M Rv} (h : wp co ρ S (fun r ρ S => wO (fldR T f (getO r ρ S)) fun d => QR (.d d) ρ S) E) : wp (cFld T f co) ρ S QR E :=
  wr_bind (wr_cons h (fun _ _ _ ⟨d, e, h⟩ => by simp only [e]; exact h) fun _ _ _ h => h)
theorem wp_fst {T : Nat → Str → Bool} {f : Str} {cv co : M Rv} (h : wp cv ρ S (fun r ρ S => wF r ρ S fun d ρ S => wp co ρ S (fun ro ρ S => wO (fstR T f d (getW ro ρ S)) fun s => wU ro s ρ S fun ρ S => QF .nx ρ S) E) E) : wp (cFst T f cv co) ρ S QF E :=
  wr_bind (wr_cons (wp_D h) (fun _ _ _ h => wr_bind (wr_cons h (fun _ _ _ ⟨d, e, h⟩ => by simp only [e]; exact h) fun _ _ _ h => h)) fun _ _ _ h => h)
theorem wp_meth {c : Nat} {mn : Str} {m : List D → List Sl → Res Rv} {n j : Nat} {gD : List D → List D → List D} {co : M Rv} {cs ks : M (List D)} (h : wp co ρ S (fun r ρ S => wF r ρ S fun d ρ S => wG (selfR c mn d S = true) (wp cs ρ S (fun ds ρ S => wp ks ρ S (fun es ρ S => wG (ds.length = n ∧ es.length = j) (wArg (gD (d :: ds) es) fun as => wA m as ρ S QR E)) E) E)) E) : wp (cMeth c mn m n j gD co cs ks) ρ S QR E :=
  wr_bind (wr_cons (wp_D h) (fun _ _ _ h => by rw [if_pos h.1]; exact wr_bind (wr_cons h.2 (fun _ _ _ h => wr_bind (wr_cons h (fun _ _ _ ⟨l, h⟩ => by rw [if_pos l]; exact wr_at h) fun _ _ _ h => h)) fun _ _ _ h => h)) fun _ _ _ h => h)
theorem wp_prop {c : Nat} {m : List D → List Sl → Res Rv} {co : M Rv} (h : wp co ρ S (fun r ρ S => wF r ρ S fun d ρ S => wG (selfR c "" d S = true) (wA m [d] ρ S QR fun _ _ _ => False)) E) : wp (cProp c m co) ρ S QR E :=
  wr_bind (wr_cons (wp_D h) (fun d ρ S h => by
    rw [if_pos h.1]
    have h2 : wr (m [d] S) (fun a _ S => QR a ρ S) (fun x _ S => False) := h.2
    refine wr_at ?_
    cases q : m [d] S with
    | ok r ρ S t => rw [q] at h2; exact h2
    | ex x ρ S => rw [q] at h2; exact h2.elim
    | bad => rw [q] at h2; exact h2.elim) fun _ _ _ h => h)
theorem wp_isi {n : Nat} {sub : Nat → Nat → Bool} {cs : M (List D)} (h : wp cs ρ S (fun ds ρ S => wO (isiR n sub S ds) fun b => QR (.d (.bl b)) ρ S) E) : wp (cIsi n sub cs) ρ S QR E :=
  wr_bind (wr_cons h (fun _ _ _ ⟨d, e, h⟩ => by simp only [e]; exact h) fun _ _ _ h => h)
theorem wp_kon {kon : Nat → Str → Option D} {f : Str} {co : M Rv} (h : wp co ρ S (fun r ρ S => wO (konR kon f r ρ S) fun d => QR (.d d) ρ S) E) : wp (cKon kon f co) ρ S QR E :=
  wr_bind (wr_cons h (fun _ _ _ ⟨d, e, h⟩ => by simp only [e]; exact h) fun _ _ _ h => h)
theorem wp_fmt {c : M Rv} (h : wp c ρ S (fun r ρ S => wC r ρ S fun d => wO (fmtD d) fun y => QR (.d (.str y)) ρ S) E) : wp (cFmt c) ρ S QR E :=
  wr_bind (wr_cons h (fun _ _ _ ⟨d, e, y, e2, h⟩ => by simp only [e, Option.bind_some, e2]; exact h) fun _ _ _ h => h)
theorem wp_jsN {acc : Str} (h : QR (.d (.str acc)) ρ S) : wp (cJsA [] acc) ρ S QR E := h
theorem wp_jsC {acc : Str} {c : M Rv} {cs : List (M Rv)} (h : wp c ρ S (fun r ρ S => wF r ρ S fun d ρ S => wO (catR acc d) fun acc' => wp (cJsA cs acc') ρ S QR E) E) : wp (cJsA (c :: cs) acc) ρ S QR E :=
  wr_bind (wr_cons (wp_D h) (fun _ _ _ ⟨y, e, h⟩ => by simp only [e]; exact h) fun _ _ _ h => h)
theorem wp_js {cs : List (M Rv)} (h : wp (cJsA cs Str.empty) ρ S QR E) : wp (cJs cs) ρ S QR E := h
def wZ (r : Rv) (P : Rv → Prop) : Prop := match r with
  | .fr s => P (.d s.frz)
  | r => P r
theorem wZ_d {P : Rv → Prop} {d : D} (h : P (.d d)) : wZ (.d d) P := h
theorem wZ_frl {P : Rv → Prop} {a} (h : P (.d (.lst a))) : wZ (.fr (.lst a)) P := h
theorem wZ_fr {P : Rv → Prop} {s : Sl} {d : D} (e : s.frz = d) (h : P (.d d)) : wZ (.fr s) P := by subst e; exact h
theorem wZ_env {P : Rv → Prop} (h : P (.env i)) : wZ (.env i) P := h
theorem wp_F {c : M Rv} (h : wp c ρ S (fun r ρ S => wZ r fun r => QR r ρ S) E) : wp (cF c) ρ S QR E := wr_bind (wr_cons h (fun r _ _ h => by cases r <;> exact h) fun _ _ _ h => h)
/-- built-in reading of an operator, or else the class's own -/
def wQ (g : D → D → Option Rv) (h : List D → List Sl → Res Rv) (ra rb : Rv) (ρ S : List Sl) (Q : Rv → List Sl → List Sl → Prop) (E : XQ) : Prop := wr (match two2 g (cont ρ S ra) (cont ρ S rb) with
  | some r => .ok r ρ S false
  | none => own2 h ra rb ρ S) Q E
theorem wp_op2 {g : D → D → Option Rv} {h : List D → List Sl → Res Rv} {ca cb : M Rv} (k : wp ca ρ S (fun ra ρ S => wZ ra fun ra => wp cb ρ S (fun rb ρ S => wZ rb fun rb => wQ g h ra rb ρ S QR E) E) E) : wp (cOp2 g h ca cb) ρ S QR E :=
  wr_bind (wr_cons (wp_F k) (fun _ _ _ k => wr_bind (wr_cons (wp_F k) (fun _ _ _ k => k) fun _ _ _ h => h)) fun _ _ _ h => h)
theorem wQ_blt {g : D → D → Option Rv} {h : List D → List Sl → Res Rv} {ra rb : Rv} (k : wC ra ρ S fun d1 => wC rb ρ S fun d2 => wO (g d1 d2) fun r => QR r ρ S) : wQ g h ra rb ρ S QR E := by
  obtain ⟨d1, e1, d2, e2, r, e3, k⟩ := k
  simp only [wQ, e1, e2, two2, e3]
  exact k
theorem wQ_own {g : D → D → Option Rv} {h : List D → List Sl → Res Rv} {d e : D} (n : two2 g (cont ρ S (.d d)) (cont ρ S (.d e)) = none) (k : wA h [d, e] ρ S QR E) : wQ g h (.d d) (.d e) ρ S QR E := by
  simp only [wQ, n]
  exact wr_at k
def wW (g : List D → Option Rv) (h : List D → List Sl → Res Rv) (r : Rv) (ρ S : List Sl) (Q : Rv → List Sl → List Sl → Prop) (E : XQ) : Prop := wr (match one1 g (cont ρ S r) with
  | some r' => .ok r' ρ S false
  | none => own1 h r ρ S) Q E
theorem wp_op1 {g : List D → Option Rv} {h : List D → List Sl → Res Rv} {c : M Rv} (k : wp c ρ S (fun ra ρ S => wZ ra fun ra => wW g h ra ρ S QR E) E) : wp (cOp1 g h c) ρ S QR E :=
  wr_bind (wr_cons (wp_F k) (fun _ _ _ k => k) fun _ _ _ h => h)
theorem wW_blt {g : List D → Option Rv} {h : List D → List Sl → Res Rv} {r : Rv} (k : wC r ρ S fun d => wO (g [d]) fun r => QR r ρ S) : wW g h r ρ S QR E := by
  obtain ⟨d1, e1, r, e3, k⟩ := k
  simp only [wW, e1, one1, e3]
  exact k
theorem wW_own {g : List D → Option Rv} {h : List D → List Sl → Res Rv} {d : D} (n : one1 g (cont ρ S (.d d)) = none) (k : wA h [d] ρ S QR E) : wW g h (.d d) ρ S QR E := by
  simp only [wW, n]
  exact wr_at k
theorem wp_nx (h : QF .nx ρ S) : wp cNx ρ S QF E := h
theorem wp_seq {a b : M Fl} (h : wp a ρ S (fun f ρ S => wN f (wp b ρ S QF E) fun f => QF f ρ S) E) : wp (cSeq a b) ρ S QF E := by
  unfold wp cSeq at *
  cases q : a ρ S with
  | ok f ρ1 S1 t => rw [q] at h; cases f <;> exact h
  | ex x ρ S => rw [q] at h; exact h
  | bad => rw [q] at h; exact h
theorem wp_drop {c : M Rv} (h : wp c ρ S (fun _ ρ S => QF .nx ρ S) E) : wp (cDrop c) ρ S QF E := wr_bind (wr_cons h (fun _ _ _ h => h) fun _ _ _ h => h)
theorem wp_ifS {t : M Bool} {a b : M Fl} (h : wp t ρ S (fun k ρ S => wI k (wp a ρ S QF E) (wp b ρ S QF E)) E) : wp (cIfS t a b) ρ S QF E := wr_bind (wr_cons h (fun _ _ _ h => wr_if h) fun _ _ _ h => h)
theorem wp_ret {c : M Rv} (h : wp c ρ S (fun r ρ S => wV r ρ S fun r ρ S => QF (.rt r) ρ S) E) : wp (cRet c) ρ S QF E :=
  wr_bind (wr_cons h (fun _ _ _ h => wr_bind (wr_cons (wr_noE h) (fun _ _ _ h => h) fun _ _ _ h => h)) fun _ _ _ h => h)
theorem wp_retN (h : QF (.rt (.d .non)) ρ S) : wp cRetN ρ S QF E := h
theorem wp_set {own : Bool} {i : Nat} {c : M Rv} (h : wp c ρ S (fun r ρ S => wS own i r ρ S QF) E) : wp (cSet own i c) ρ S QF E := wr_bind (wr_cons h (fun _ _ _ h => wr_noE h) fun _ _ _ h => h)
theorem wp_sto {i : Nat} {c : M Rv} (h : wp c ρ S (fun r ρ S => wSto i r ρ S QF) E) : wp (cSto i c) ρ S QF E := wr_bind (wr_cons h (fun _ _ _ h => wr_noE h) fun _ _ _ h => h)
theorem wSto_mk {i n : Nat} {s : Sl} (o : s.one = true) (e : pu S s n S') (e2 : st ρ i (.val (.ob n)) ρ') (h : QF .nx ρ' S') : wSto i (.fr s) ρ S QF := by
  obtain ⟨rfl, rfl⟩ := e
  obtain ⟨l, rfl⟩ := e2
  simp only [wSto, setSto, l, o, and_self, if_true]
  exact h
theorem wSto_lst {i n : Nat} {a} (e : pu S (.lst a) n S') (e2 : st ρ i (.val (.ob n)) ρ') (h : QF .nx ρ' S') : wSto i (.fr (.lst a)) ρ S QF := wSto_mk rfl e e2 h
theorem wp_stoE {c : M Rv} (h : wp c ρ S (fun r ρ S => wStoE r ρ S QR) E) : wp (cStoE c) ρ S QR E := wr_bind (wr_cons h (fun _ _ _ h => wr_noE h) fun _ _ _ h => h)
theorem wStoE_mk {n : Nat} {s : Sl} (o : s.one = true) (e : pu S s n S') (h : QR (.d (.ob n)) ρ S') : wStoE (.fr s) ρ S QR := by
  obtain ⟨rfl, rfl⟩ := e
  simp only [wStoE, stoR, o, if_true]
  exact h
theorem wStoE_lst {n : Nat} {a} (e : pu S (.lst a) n S') (h : QR (.d (.ob n)) ρ S') : wStoE (.fr (.lst a)) ρ S QR := wStoE_mk rfl e h
theorem wp_put {g : Sl → D → D → Option Sl} {c co ci : M Rv} (h : wp c ρ S (fun r ρ S => wF r ρ S fun d ρ S => wp co ρ S (fun ro ρ S => wp ci ρ S (fun ri ρ S => wP ro ρ S fun s => wC ri ρ S fun k => wO (g s k d) fun s' => wU ro s' ρ S fun ρ S => QF .nx ρ S) E) E) E) : wp (cPut g c co ci) ρ S QF E :=
  wr_bind (wr_cons (wp_D h) (fun _ _ _ h => wr_bind (wr_cons h (fun _ _ _ h => wr_bind (wr_cons h (fun _ _ _ ⟨s, e1, k, e2, s', e3, h⟩ => by simp only [e1, e2, e3]; exact h) fun _ _ _ h => h)) fun _ _ _ h => h)) fun _ _ _ h => h)
theorem wp_mm {T : String} {g : Sl → List D → Option (D × Sl)} {co : M Rv} {cs : M (List D)} (h : wp co ρ S (fun ro ρ S => wP ro ρ S fun s0 => wG (tyS T s0 = true) (wp cs ρ S (fun ds ρ S => wP ro ρ S fun s => wO2 (g s ds) fun d s' => wU ro s' ρ S fun ρ S => QR (.d d) ρ S) E)) E) : wp (cMm T g co cs) ρ S QR E := by
  refine wr_bind (wr_cons h (fun _ _ _ ⟨s0, e, t, h⟩ => ?_) fun _ _ _ h => h)
  simp only [e, if_pos t]
  exact wr_bind (wr_cons h (fun _ _ _ ⟨s, e, d, s', e2, h⟩ => by simp only [e, e2]; exact h) fun _ _ _ h => h)
theorem wp_par {i j : Nat} {cs : M (List D)} (h : wp cs ρ S (fun ds ρ S => wPar i j ds ρ S QF) E) : wp (cPar i j cs) ρ S QF E :=
  wr_bind (wr_cons h (fun _ _ _ ⟨d, e, e0, l1, l2, h⟩ => by
    subst e0
    simp only [l1, l2, and_self, if_true]
    exact h) fun _ _ _ h => h)
theorem wPar_mk {i j : Nat} {d e : D} {ρ1 ρ2 : List Sl} (e1 : st ρ i (.val d) ρ1) (e2 : st ρ1 j (.val e) ρ2) (h : QF .nx ρ2 S) : wPar i j [d, e] ρ S QF := by
  obtain ⟨l1, rfl⟩ := e1
  obtain ⟨l2, rfl⟩ := e2
  rw [List.length_set] at l2
  exact ⟨d, e, rfl, l1, l2, h⟩
theorem wp_par3 {i j k : Nat} {cs : M (List D)} (h : wp cs ρ S (fun ds ρ S => wPar3 i j k ds ρ S QF) E) : wp (cPar3 i j k cs) ρ S QF E :=
  wr_bind (wr_cons h (fun _ _ _ ⟨d, e, f, e0, l1, l2, l3, h⟩ => by
    subst e0
    simp only [l1, l2, l3, and_self, if_true]
    exact h) fun _ _ _ h => h)
theorem wPar3_mk {i j k : Nat} {d e f : D} {ρ1 ρ2 ρ3 : List Sl} (e1 : st ρ i (.val d) ρ1) (e2 : st ρ1 j (.val e) ρ2) (e3 : st ρ2 k (.val f) ρ3) (h : QF .nx ρ3 S) : wPar3 i j k [d, e, f] ρ S QF := by
  obtain ⟨l1, rfl⟩ := e1
  obtain ⟨l2, rfl⟩ := e2
  obtain ⟨l3, rfl⟩ := e3
  rw [List.length_set] at l2
  rw [List.length_set, List.length_set] at l3
  exact ⟨d, e, f, rfl, l1, l2, l3, h⟩
def tq (g : Tgt) (d : D) (ρ ρ' : List Sl) : Prop := bindT g d ρ = some ρ'
theorem tq_nm {d : D} (e : st ρ i (.val d) ρ') : tq (.nm i) d ρ ρ' := by obtain ⟨l, rfl⟩ := e; exact if_pos l
theorem tq_tp0 : tq (.tp []) (.tup []) ρ ρ := rfl
theorem tq_tp {is : List Nat} {d : D} {ds : List D} {ρ1 : List Sl} (e : st ρ i (.val d) ρ1) (h : tq (.tp is) (.tup ds) ρ1 ρ') : tq (.tp (i :: is)) (.tup (d :: ds)) ρ ρ' := by
  obtain ⟨l, rfl⟩ := e
  show bindL (i :: is) (d :: ds) ρ = some ρ'
  rw [bindL, if_pos l]
  exact h
theorem wp_setT {g : Tgt} {c : M Rv} (h : wp c ρ S (fun r ρ S => wF r ρ S fun d ρ S => wX (tq g d ρ) fun ρ' => QF .nx ρ' S) E) : wp (cSetT g c) ρ S QF E :=
  wr_bind (wr_cons (wp_D h) (fun _ _ _ ⟨ρ', e, h⟩ => by have e : bindT _ _ _ = some ρ' := e; simp only [setT, e]; exact h) fun _ _ _ h => h)
theorem wX_mk {α : Type} {R P : α → Prop} {a : α} (e : R a) (h : P a) : wX R P := ⟨a, e, h⟩
def rp (n : Nat) (l : List Sl) : Prop := List.replicate n .emp = l
theorem rp_z : rp 0 [] := rfl
theorem rp_s {n : Nat} {l : List Sl} (h : rp n l) : rp (n + 1) (.emp :: l) := by rw [rp, List.replicate_succ, h]
def ev (n : Nat) (ds : List D) (ρ : List Sl) : Prop := env0 n ds = ρ
def evI (n k : Nat) (ds : List D) (ρ : List Sl) : Prop := envI n k ds = ρ
theorem ev_nil {n : Nat} {l : List Sl} (h : rp n l) : ev n [] l := h
theorem ev_cons {n : Nat} {d : D} {ds : List D} {l : List Sl} (h : ev n ds l) : ev (n + 1) (d :: ds) (.val d :: l) := by
  rw [ev, env0, List.map_cons, List.length_cons, Nat.succ_sub_succ, List.cons_append]
  exact congrArg _ h
theorem evI_mk {n k : Nat} {ds : List D} {l : List Sl} (h : ev n ds l) : evI (n + 1) k ds (.ins k [] :: l) := by
  rw [evI, envI, Nat.add_sub_cancel]
  exact congrArg _ h
def aq (l as : List D) : Prop := l = as
theorem wArg_mk {l as : List D} {P : List D → Prop} (e : aq l as) (h : P as) : wArg l P := by rw [wArg, show l = as from e]; exact h
theorem aq_nil : aq [] [] := rfl
theorem aq_cons {d : D} {xs ys : List D} (h : aq xs ys) : aq (d :: xs) (d :: ys) := congrArg _ h
theorem aq_anil {l r : List D} (h : aq l r) : aq ([] ++ l) r := h
theorem aq_acons {d : D} {xs l r : List D} (h : aq (xs ++ l) r) : aq ((d :: xs) ++ l) (d :: r) := congrArg _ h
theorem aq_aa {xs ys zs l r : List D} (h : aq (xs ++ ys) l) (k : aq (l ++ zs) r) : aq ((xs ++ ys) ++ zs) r := by rw [show xs ++ ys = l from h]; exact k
def nd (xs : List D) (i : Nat) (d : D) : Prop := xs[i]? = some d
theorem nd_z {d : D} {xs : List D} : nd (d :: xs) 0 d := rfl
theorem nd_s {d u : D} {xs : List D} {n : Nat} (h : nd xs n d) : nd (u :: xs) (n + 1) d := by rw [nd, List.getElem?_cons_succ]; exact h
def pn (is : List Nat) (xs as : List D) : Prop := pick is xs = as
theorem pn_nil {xs : List D} : pn [] xs [] := rfl
theorem pn_cons {i : Nat} {is : List Nat} {xs as : List D} {d : D} (e : nd xs i d) (h : pn is xs as) : pn (i :: is) xs (d :: as) := by
  rw [pn, pick_cons, show xs[i]? = some d from e, consO_some, show pick is xs = as from h]
theorem aq_pick {is : List Nat} {l l' as : List D} (e : aq l l') (h : pn is l' as) : aq (pick is l) as := by rw [show l = l' from e]; exact h
theorem wm_def {n : Nat} {c : M Fl} {ds : List D} {Q : Rv → List Sl → Prop} {E : Exn → List Sl → Prop} (e : ev n ds ρ) (h : wp c ρ S (fun f _ S => wEnd f S Q) (fun x _ S => E x S)) : wm (defM n c) ds S Q E := by
  have e : env0 n ds = ρ := e
  subst e
  unfold wm defM wp at *
  cases q : c (env0 n ds) S with
  | ok f ρ1 S1 t => rw [q] at h; cases f <;> exact h
  | ex x ρ S => rw [q] at h; exact h
  | bad => rw [q] at h; exact h
end
end DV
namespace DV
open PySem PySem.Spec PyProof.Rows L2
section
variable {α β : Type} {ρ ρ' S S' T : List Sl} {E : XQ} {s u : Sl} {i j n k : Nat} {QF : Fl → List Sl → List Sl → Prop} {QR : Rv → List Sl → List Sl → Prop} {QL : List D → List Sl → List Sl → Prop}
variable {QS : Src → List Sl → List Sl → Prop}
theorem wp_its {c : M Rv} (h : wp c ρ S (fun r ρ S => wF r ρ S fun d ρ S => wO d.its fun ds => QL ds ρ S) E) : wp (cIts c) ρ S QL E :=
  wr_bind (wr_cons (wp_D h) (fun _ _ _ ⟨ds, e, h⟩ => by simp only [e]; exact h) fun _ _ _ h => h)
theorem wp_itsO {c : M Rv} (h : wp c ρ S (fun r ρ S => wF r ρ S fun d ρ S => wO (srcR S d) fun s => QS s ρ S) E) : wp (cItsO c) ρ S QS E :=
  wr_bind (wr_cons (wp_D h) (fun _ _ _ ⟨ds, e, h⟩ => by simp only [e]; exact h) fun _ _ _ h => h)
theorem wp_enumO {cs : M (List D)} (h : wp cs ρ S (fun ds ρ S => wO (esrcR S ds) fun s => QS s ρ S) E) : wp (cEnumO cs) ρ S QS E :=
  wr_bind (wr_cons h (fun _ _ _ ⟨ds, e, h⟩ => by simp only [e]; exact h) fun _ _ _ h => h)
theorem wp_enumA {cs : M (List D)} (h : wp cs ρ S (fun ds ρ S => wO (enumR ds) fun s => QL s ρ S) E) : wp (cEnumA cs) ρ S QL E :=
  wr_bind (wr_cons h (fun _ _ _ ⟨ds, e, h⟩ => by simp only [e]; exact h) fun _ _ _ h => h)
def rng1O : List D → Option (List D)
  | [.int j] => if -(2 ^ 62) ≤ j ∧ j < 2 ^ 62 then some (rangeD 0 j.toNat) else none
  | _ => none
def rng2O : List D → Option (List D)
  | [.int i, .int j] => if -(2 ^ 62) ≤ i ∧ i < 2 ^ 62 ∧ -(2 ^ 62) ≤ j ∧ j < 2 ^ 62 then some (rangeD i (j - i).toNat) else none
  | _ => none
theorem wO_rng1 {j : Int} {P : List D → Prop} (l : -(2 ^ 62) ≤ j ∧ j < 2 ^ 62) (h : P (rangeD 0 j.toNat)) : wO (rng1O [.int j]) P := ⟨_, if_pos l, h⟩
theorem wO_rng2 {i j : Int} {P : List D → Prop} (l : -(2 ^ 62) ≤ i ∧ i < 2 ^ 62 ∧ -(2 ^ 62) ≤ j ∧ j < 2 ^ 62) (h : P (rangeD i (j - i).toNat)) : wO (rng2O [.int i, .int j]) P := ⟨_, if_pos l, h⟩
theorem wp_rng1 {cs : M (List D)} (h : wp cs ρ S (fun ds ρ S => wO (rng1O ds) fun ds => QL ds ρ S) E) : wp (cRng1 cs) ρ S QL E :=
  wr_bind (wr_cons h (fun _ _ _ ⟨xs, e, h⟩ => by
    unfold rng1O at e
    split at e <;> first | (split at e <;> first | (rename_i l; cases e; simp only [if_pos l]; exact h) | cases e) | cases e) fun _ _ _ h => h)
theorem wp_rng2 {cs : M (List D)} (h : wp cs ρ S (fun ds ρ S => wO (rng2O ds) fun ds => QL ds ρ S) E) : wp (cRng2 cs) ρ S QL E :=
  wr_bind (wr_cons h (fun _ _ _ ⟨xs, e, h⟩ => by
    unfold rng2O at e
    split at e <;> first | (split at e <;> first | (rename_i l; cases e; simp only [if_pos l]; exact h) | cases e) | cases e) fun _ _ _ h => h)
def zipO : List D → Option (List D)
  | [.lst xs, .lst ys] => some (zipD xs ys)
  | [.tup xs, .tup ys] => some (zipD xs ys)
  | [.tup xs, .kt ys] => some (zipD xs ys)
  | [.kt xs, .tup ys] => some (zipD xs ys)
  | _ => none
theorem wp_zip {cs : M (List D)} (h : wp cs ρ S (fun ds ρ S => wO (zipO ds) fun ds => QL ds ρ S) E) : wp (cZip cs) ρ S QL E :=
  wr_bind (wr_cons h (fun ds _ _ ⟨xs, e, h⟩ => by
    unfold zipO at e
    split at e <;> first | (cases e; exact h) | cases e) fun _ _ _ h => h)
def wL (g : Tgt) (b : M Fl) (ds : List D) (ρ S : List Sl) (Q : Fl → List Sl → List Sl → Prop) (E : XQ) : Prop := wr (forM g b ds ρ S) Q E
def wJ (f : Fl) (ρ S : List Sl) (next : Prop) (Q : Fl → List Sl → List Sl → Prop) : Prop := match f with
  | .nx => next
  | .ct => next
  | .bk => Q .nx ρ S
  | .rt r => Q (.rt r) ρ S
theorem wJ_nx {p : Prop} (h : p) : wJ .nx ρ S p QF := h
theorem wJ_ct {p : Prop} (h : p) : wJ .ct ρ S p QF := h
theorem wJ_bk {p : Prop} (h : QF .nx ρ S) : wJ .bk ρ S p QF := h
theorem wJ_rt {p : Prop} {r : Rv} (h : QF (.rt r) ρ S) : wJ (.rt r) ρ S p QF := h
variable {g : Tgt} {b : M Fl} {d : D} {ds : List D}
theorem wp_for {ci : M (List D)} (h : wp ci ρ S (fun ds ρ S => wL g b ds ρ S QF E) E) : wp (cFor ci g b) ρ S QF E := by
  unfold wp cFor at *
  cases q : ci ρ S with
  | ok f ρ1 S1 t => rw [q] at h; exact h
  | ex x ρ S => rw [q] at h; exact h
  | bad => rw [q] at h; exact h
def wLO (f : Nat → D → D) (g : Tgt) (b : M Fl) (s : Src) (ρ S : List Sl) (Q : Fl → List Sl → List Sl → Prop) (E : XQ) : Prop := wr (match s with
  | .its ds => forM g b ds ρ S
  | .ob k => forOb f g b k (fuelO k S) 0 ρ S) Q E
theorem wp_forO {f : Nat → D → D} {ci : M Src} (h : wp ci ρ S (fun s ρ S => wLO f g b s ρ S QF E) E) : wp (cForO f ci g b) ρ S QF E := by
  unfold wp cForO at *
  cases q : ci ρ S with
  | ok f ρ1 S1 t => rw [q] at h; cases f <;> exact h
  | ex x ρ S => rw [q] at h; exact h
  | bad => rw [q] at h; exact h
theorem wLO_its {f : Nat → D → D} (h : wL g b ds ρ S QF E) : wLO f g b (.its ds) ρ S QF E := h
def wq (ρ : List Sl) (vs : List Nat) (ρ' : List Sl) : Prop := wipeS ρ vs = ρ'
theorem wq_nil : wq ρ [] ρ := rfl
theorem wq_cons {ρ1 ρ2 : List Sl} {v : Nat} {vs : List Nat} (h : wq ρ vs ρ1) (e : st ρ1 v .emp ρ2) : wq ρ (v :: vs) ρ2 := by
  unfold wq at *
  rw [wipeS, h]
  exact e.2
variable {vs : List Nat} {t : M Bool} {c : M Rv} {acc : List D}
def wK (vs : List Nat) (g : Tgt) (t : M Bool) (c : M Rv) (ds acc : List D) (ρ S : List Sl) (Q : List D → List Sl → List Sl → Prop) : Prop := wr (compM vs g t c ds acc ρ S) Q fun _ _ _ => False
theorem wK_nil (h : QL acc ρ S) : wK vs g t c [] acc ρ S QL := h
theorem wK_cons {ρ1 : List Sl} (e : tq g d ρ ρ1) (h : wp t ρ1 S (fun b ρ S => wI b (wp c ρ S (fun r ρ S => wF r ρ S fun d' ρ S => wG (acc.length < sizeLine) (wX (wq ρ vs) fun ρ' => wK vs g t c ds (acc ++ [d']) ρ' S QL)) fun _ _ _ => False) (wX (wq ρ vs) fun ρ' => wK vs g t c ds acc ρ' S QL)) fun _ _ _ => False) : wK vs g t c (d :: ds) acc ρ S QL := by iterate
  have e : bindT g d ρ = some ρ1 := e
  unfold wK compM
  simp only [e]
  unfold wp at h
  cases q : t ρ1 S with
  | ok f ρ2 S2 t2 =>
    rw [q] at h
    cases f with
    | false => obtain ⟨ρ', e, h⟩ := h; have e : wipeS ρ2 vs = ρ' := e; subst e; exact h
    | true =>
      have h : wp (cD c) ρ2 S2 (fun d' ρ S => wG (acc.length < sizeLine) (wX (wq ρ vs) fun ρ' => wK vs g t c ds (acc ++ [d']) ρ' S QL)) (fun _ _ _ => False) := wp_D h
      unfold wp at h
      simp only []
      cases q2 : cD c ρ2 S2 with
      | ok d' ρ3 S3 t3 =>
        rw [q2] at h
        obtain ⟨l, ρ', e, h⟩ := h
        have e : wipeS ρ3 vs = ρ' := e
        subst e
        simp only [if_pos l]
        exact h
      | ex x ρ S => rw [q2] at h; exact h.elim
      | bad => rw [q2] at h; exact h.elim
  | ex x ρ S => rw [q] at h; exact h.elim
  | bad => rw [q] at h; exact h.elim
theorem wK_inv (I : List D → List D → List Sl → List Sl → Prop) (hs : ∀ d ds acc ρ S, I (d :: ds) acc ρ S → wX (tq g d ρ) fun ρ1 => wp t ρ1 S (fun b ρ S => wI b (wp c ρ S (fun r ρ S => wF r ρ S fun d' ρ S => wG (acc.length < sizeLine) (wX (wq ρ vs) fun ρ' => I ds (acc ++ [d']) ρ' S)) fun _ _ _ => False) (wX (wq ρ vs) fun ρ' => I ds acc ρ' S)) fun _ _ _ => False)
    (he : ∀ acc ρ S, I [] acc ρ S → QL acc ρ S) : ∀ (ds acc : List D) (ρ S : List Sl), I ds acc ρ S → wK vs g t c ds acc ρ S QL
  | [], acc, ρ, S, h => wK_nil (he acc ρ S h)
  | d :: ds, acc, ρ, S, h => by
    obtain ⟨ρ1, e, k⟩ := hs d ds acc ρ S h
    refine wK_cons e (wr_cons k (fun b ρ S h => ?_) fun _ _ _ h => h)
    cases b with
    | false => obtain ⟨ρ', e, h⟩ := h; exact wX_mk e (wK_inv I hs he _ _ _ _ h)
    | true => exact wr_cons h (fun r ρ S h => wr_cons h (fun d ρ S ⟨l, ρ', e, h⟩ => wG_mk l (wX_mk e (wK_inv I hs he _ _ _ _ h))) fun _ _ _ h => h) fun _ _ _ h => h
/-- a comprehension that changes nothing -/
theorem wK_pure (p : D → Bool) (f : D → D) (hl : ds.length ≤ sizeLine) (hs : ∀ d ∈ ds, wX (tq g d ρ) fun ρ1 => wp t ρ1 S (fun b ρ2 S2 => wI b (wp c ρ2 S2 (fun r ρ3 S3 => wF r ρ3 S3 fun d' ρ3 S3 => d' = f d ∧ p d = true ∧ wq ρ3 vs ρ ∧ S3 = S) fun _ _ _ => False) (p d = false ∧ wq ρ2 vs ρ ∧ S2 = S)) fun _ _ _ => False)
    (h : QL ((ds.filter p).map f) ρ S) : wK vs g t c ds [] ρ S QL := by iterate
  refine wK_inv (fun rest acc ρ' S' => ρ' = ρ ∧ S' = S ∧ (∀ d ∈ rest, d ∈ ds) ∧ acc ++ (rest.filter p).map f = (ds.filter p).map f ∧ acc.length + rest.length ≤ sizeLine) ?_ ?_ ds [] ρ S ⟨rfl, rfl, fun _ h => h, rfl, by simpa using hl⟩
  · rintro d rest acc _ _ ⟨rfl, rfl, hm, ha, hb⟩
    obtain ⟨ρ1, e, k⟩ := hs d (hm d (List.mem_cons_self ..))
    rw [List.length_cons] at hb
    refine wX_mk e (wr_cons k (fun b ρ2 S2 h => ?_) fun _ _ _ h => h)
    cases b with
    | false =>
      obtain ⟨hp, w, rfl⟩ := h
      refine wX_mk w ⟨rfl, rfl, fun x hx => hm x (List.mem_cons_of_mem _ hx), ?_, by omega⟩
      rw [List.filter_cons, if_neg (by rw [hp]; decide)] at ha
      exact ha
    | true =>
      refine wr_cons h (fun r ρ3 S3 h => wr_cons h (fun d' ρ3 S3 ⟨e1, hp, w, e2⟩ => ?_) fun _ _ _ h => h) fun _ _ _ h => h
      subst e1 e2
      refine wG_mk (by omega) (wX_mk w ⟨rfl, rfl, fun x hx => hm x (List.mem_cons_of_mem _ hx), ?_, by simp only [List.length_append, List.length_cons, List.length_nil]; omega⟩)
      rw [List.filter_cons, if_pos hp] at ha
      rw [List.append_assoc]
      exact ha
  · rintro acc _ _ ⟨rfl, rfl, _, ha, _⟩
    rw [List.filter_nil, List.map_nil, List.append_nil] at ha
    subst ha
    exact h
theorem wp_lc {ci : M (List D)} (h : wp ci ρ S (fun ds ρ S => wX (wq ρ vs) fun ρ' => wK vs g t c ds [] ρ' S fun acc ρ S => QR (.fr (.lst acc)) ρ S) E) : wp (cLc ci vs g t c) ρ S QR E := by iterate
  unfold wp cLc at *
  cases q : ci ρ S with
  | ok f ρ1 S1 t1 =>
    rw [q] at h
    obtain ⟨ρ', e, h⟩ := h
    have e : wipeS ρ1 vs = ρ' := e
    subst e
    unfold wK at h
    simp only []
    cases q2 : compM vs g t c f [] (wipeS ρ1 vs) S1 with
    | ok acc ρ2 S2 t2 => rw [q2] at h; exact h
    | ex x ρ S => rw [q2] at h; exact h.elim
    | bad => rw [q2] at h; exact h.elim
  | ex x ρ S => rw [q] at h; exact h
  | bad => rw [q] at h; exact h
def wKO (f : Nat → D → D) (vs : List Nat) (g : Tgt) (t : M Bool) (c : M Rv) (s : Src) (ρ S : List Sl) (Q : List D → List Sl → List Sl → Prop) : Prop := wr (match s with
  | .its ds => compM vs g t c ds [] ρ S
  | .ob k => compOb f vs g t c k (fuelO k S) 0 [] ρ S) Q fun _ _ _ => False
theorem wKO_its {f : Nat → D → D} (h : wK vs g t c ds [] ρ S QL) : wKO f vs g t c (.its ds) ρ S QL := h
theorem wp_lcO {f : Nat → D → D} {ci : M Src} (h : wp ci ρ S (fun s ρ S => wX (wq ρ vs) fun ρ' => wKO f vs g t c s ρ' S fun acc ρ S => QR (.fr (.lst acc)) ρ S) E) : wp (cLcO f ci vs g t c) ρ S QR E := by iterate
  unfold wp cLcO at *
  cases q : ci ρ S with
  | ok s ρ1 S1 t1 =>
    rw [q] at h
    obtain ⟨ρ', e, h⟩ := h
    have e : wipeS ρ1 vs = ρ' := e
    subst e
    unfold wKO at h
    cases s with
    | its ds =>
      simp only [] at h ⊢
      cases q2 : compM vs g t c ds [] (wipeS ρ1 vs) S1 with
      | ok acc ρ2 S2 t2 => rw [q2] at h; exact h
      | ex x ρ S => rw [q2] at h; exact h.elim
      | bad => rw [q2] at h; exact h.elim
    | ob k =>
      simp only [] at h ⊢
      cases q2 : compOb f vs g t c k (fuelO k S1) 0 [] (wipeS ρ1 vs) S1 with
      | ok acc ρ2 S2 t2 => rw [q2] at h; exact h
      | ex x ρ S => rw [q2] at h; exact h.elim
      | bad => rw [q2] at h; exact h.elim
  | ex x ρ S => rw [q] at h; exact h
  | bad => rw [q] at h; exact h
variable {P : Rv → Prop} {P1 : Option Int → Prop} {PB : Bool → Prop} {PL : List D → Prop} {PS : Src → Prop} {a b' : Int} {x y : Str} {xs ys : List D} {D1 : D}
theorem wO_add_int (h : P (.d (.int (a + b')))) : wO (oAdd (.int a) (.int b')) P := ⟨_, rfl, h⟩
theorem wO_sub_int (h : P (.d (.int (a - b')))) : wO (oSub (.int a) (.int b')) P := ⟨_, rfl, h⟩
theorem wO_mul_int (l : a.natAbs < 2 ^ 64 ∨ b'.natAbs < 2 ^ 64 ∨ (a.natAbs < 2 ^ 400000 ∧ b'.natAbs < 2 ^ 400000)) (h : P (.d (.int (a * b')))) : wO (oMul (.int a) (.int b')) P := ⟨.d (.int (a * b')), by
  have : oMulI (.int a) (.int b') = some (.d (.int (a * b'))) := by simp only [oMulI, oInt, if_pos l]; rfl
  simp only [oMul, this]; rfl, h⟩
theorem wO_mod_int (l : 0 < b') (h : P (.d (.int (a % b')))) : wO (oMod (.int a) (.int b')) P := ⟨_, ev_mod_int l, h⟩
theorem wO_fdiv_int (l : 0 < b') (l2 : b' < 1152921504606846976) (h : P (.d (.int (a / b')))) : wO (oFdiv (.int a) (.int b')) P := ⟨_, ev_fdiv_int l l2, h⟩
theorem wO_lt_int (h : P (.d (.bl (decide (a < b'))))) : wO (oLt (.int a) (.int b')) P := ⟨_, rfl, h⟩
theorem wO_le_int (h : P (.d (.bl (decide (a ≤ b'))))) : wO (oLe (.int a) (.int b')) P := ⟨_, rfl, h⟩
theorem wO_gt_int (h : P (.d (.bl (decide (b' < a))))) : wO (oGt (.int a) (.int b')) P := ⟨_, rfl, h⟩
theorem wO_ge_int (h : P (.d (.bl (decide (b' ≤ a))))) : wO (oGe (.int a) (.int b')) P := ⟨_, rfl, h⟩
theorem wO_eq_int (h : P (.d (.bl (decide (a = b'))))) : wO (oEq false (.int a) (.int b')) P := ⟨_, ev_eq_int a b', h⟩
theorem wO_ne_int (h : P (.d (.bl (!decide (a = b'))))) : wO (oEq true (.int a) (.int b')) P := ⟨_, ev_ne_int a b', h⟩
theorem wO_eq_str (h : P (.d (.bl (decide (x = y))))) : wO (oEq false (.str x) (.str y)) P := ⟨_, ev_eq_str x y, h⟩
theorem ev_ne_str (a b : Str) : oEq true (.str a) (.str b) = some (.d (.bl (!decide (a = b)))) := by
  show some (Rv.d (.bl (true != decide (V.str a = V.str b)))) = _
  rw [vstr_eq]
  simp
theorem wO_ne_str (h : P (.d (.bl (!decide (x = y))))) : wO (oEq true (.str x) (.str y)) P := ⟨_, ev_ne_str x y, h⟩
theorem wO_eq_bl {p q : Bool} (h : P (.d (.bl (p == q)))) : wO (oEq false (.bl p) (.bl q)) P := ⟨_, ev_eq_bl p q, h⟩
theorem wO_ne_bl {p q : Bool} (h : P (.d (.bl (!(p == q))))) : wO (oEq true (.bl p) (.bl q)) P := ⟨_, ev_ne_bl p q, h⟩
/-- neg, == worked out -/
theorem wO_is_non {neg : Bool} (h : P (.d (.bl (neg != D1.isNon)))) : wO (oIs neg D1 .non) P := ⟨_, rfl, h⟩
theorem wO_in_str {neg : Bool} (h : P (.d (.bl (neg != !(Builtin.Str.occurrences y x 0 y.length 1).isEmpty)))) : wO (oIn neg (.str x) (.str y)) P := ⟨.d (.bl (neg != !(Builtin.Str.occurrences y x 0 y.length 1).isEmpty)), by
  have : oInL neg (.str x) (.str y) = none := rfl
  simp only [oIn, this]; rfl, h⟩
theorem wO_tru_bl {p : Bool} (h : PB p) : wO (truD (.bl p)) PB := ⟨_, rfl, h⟩
theorem wO_tru_str (l : x.length ≤ sizeLine) (h : PB ((x.length : Int) != 0)) : wO (truD (.str x)) PB := ⟨(x.length : Int) != 0, by simp only [truD, if_pos l], h⟩
theorem wO_part (h : P1 (some a)) : wO (partD (.int a)) P1 := ⟨_, rfl, h⟩
theorem wO_its_lst (h : PL xs) : wO (D.its (.lst xs)) PL := ⟨_, rfl, h⟩
theorem wO_its_kl (h : PL xs) : wO (D.its (.kl xs)) PL := ⟨_, rfl, h⟩
theorem wO_its_tup (h : PL xs) : wO (D.its (.tup xs)) PL := ⟨_, rfl, h⟩
theorem wO_its_kt (h : PL xs) : wO (D.its (.kt xs)) PL := ⟨_, rfl, h⟩
theorem wO_its_str (h : PL (signsD x)) : wO (D.its (.str x)) PL := ⟨_, rfl, h⟩
theorem wO_src_lst (h : PS (.its xs)) : wO (srcR S (.lst xs)) PS := ⟨_, rfl, h⟩
theorem wO_src_kl (h : PS (.its xs)) : wO (srcR S (.kl xs)) PS := ⟨_, rfl, h⟩
theorem wO_src_tup (h : PS (.its xs)) : wO (srcR S (.tup xs)) PS := ⟨_, rfl, h⟩
theorem wO_src_kt (h : PS (.its xs)) : wO (srcR S (.kt xs)) PS := ⟨_, rfl, h⟩
theorem wO_src_str (h : PS (.its (signsD x))) : wO (srcR S (.str x)) PS := ⟨_, rfl, h⟩
theorem wO_src_ob (e : nt S k (.lst xs)) (h : PS (.ob k)) : wO (srcR S (.ob k)) PS := ⟨.ob k, by have e : S[k]? = _ := e; simp only [srcR, e], h⟩
theorem wO_esrc_lst (h : PS (.its (enumD 0 xs))) : wO (esrcR S [.lst xs]) PS := ⟨_, rfl, h⟩
theorem wO_esrc_kl (h : PS (.its (enumD 0 xs))) : wO (esrcR S [.kl xs]) PS := ⟨_, rfl, h⟩
theorem wO_esrc_tup (h : PS (.its (enumD 0 xs))) : wO (esrcR S [.tup xs]) PS := ⟨_, rfl, h⟩
theorem wO_esrc_kt (h : PS (.its (enumD 0 xs))) : wO (esrcR S [.kt xs]) PS := ⟨_, rfl, h⟩
theorem wO_esrc_str (h : PS (.its (enumD 0 (signsD x)))) : wO (esrcR S [.str x]) PS := ⟨_, rfl, h⟩
theorem wO_esrc_ob (e : nt S k (.lst xs)) (h : PS (.ob k)) : wO (esrcR S [.ob k]) PS := ⟨.ob k, by have e : S[k]? = _ := e; simp only [esrcR, e], h⟩
theorem wO_zip_ll (h : PL (zipD xs ys)) : wO (zipO [.lst xs, .lst ys]) PL := ⟨_, rfl, h⟩
theorem wO_zip_tt (h : PL (zipD xs ys)) : wO (zipO [.tup xs, .tup ys]) PL := ⟨_, rfl, h⟩
theorem wO_zip_tk (h : PL (zipD xs ys)) : wO (zipO [.tup xs, .kt ys]) PL := ⟨_, rfl, h⟩
theorem wO_zip_kt (h : PL (zipD xs ys)) : wO (zipO [.kt xs, .tup ys]) PL := ⟨_, rfl, h⟩
theorem wO_len_lst (h : P (.d (.int xs.length))) : wO (gLen [.lst xs]) P := ⟨_, rfl, h⟩
theorem wO_len_kl (h : P (.d (.int xs.length))) : wO (gLen [.kl xs]) P := ⟨_, rfl, h⟩
theorem wO_len_tup (h : P (.d (.int xs.length))) : wO (gLen [.tup xs]) P := ⟨_, rfl, h⟩
theorem wO_len_kt (h : P (.d (.int xs.length))) : wO (gLen [.kt xs]) P := ⟨_, rfl, h⟩
theorem wO_len_str (l : x.length ≤ sizeLine) (h : P (.d (.int x.length))) : wO (gLen [.str x]) P := ⟨_, ev_len_str l, h⟩
theorem wO_gint (h : P (.d (.int a))) : wO (gInt [.int a]) P := ⟨_, rfl, h⟩
theorem wO_gabs (h : P (.d (.int (if a < 0 then -a else a)))) : wO (gAbs [.int a]) P := ⟨_, rfl, h⟩
theorem wO_list_lst (h : P (.fr (.lst xs))) : wO (gList [.lst xs]) P := ⟨_, rfl, h⟩
theorem wO_list_kl (h : P (.fr (.lst xs))) : wO (gList [.kl xs]) P := ⟨_, rfl, h⟩
theorem wO_list_tup (h : P (.fr (.lst xs))) : wO (gList [.tup xs]) P := ⟨_, rfl, h⟩
theorem wO_list_kt (h : P (.fr (.lst xs))) : wO (gList [.kt xs]) P := ⟨_, rfl, h⟩
theorem wO_list_str (l : x.length ≤ sizeLine) (h : P (.fr (.lst (signsD x)))) : wO (gList [.str x]) P := ⟨.fr (.lst (signsD x)), by
  have : gListQ [.str x] = none := rfl
  simp only [gList, this, gListS, if_pos l]; rfl, h⟩
theorem wO_tup_lst (h : P (.d (.tup xs))) : wO (gTup [.lst xs]) P := ⟨_, rfl, h⟩
theorem wO_tup_tup (h : P (.d (.tup xs))) : wO (gTup [.tup xs]) P := ⟨_, rfl, h⟩
theorem wO_all {ns : List Bool} (e : blsD xs = some ns) (h : P (.d (.bl (ns.all id)))) : wO (gAll [.lst xs]) P := ⟨.d (.bl (ns.all id)), by simp only [gAll, e]; rfl, h⟩
theorem wO_get_lst (e : atI xs a = some D1) (h : P (.d D1)) : wO (oGet (.lst xs) (.int a)) P := ⟨.d D1, by rw [ev_get_lst, e]; rfl, h⟩
theorem wO_get_tup (e : atI xs a = some D1) (h : P (.d D1)) : wO (oGet (.tup xs) (.int a)) P := ⟨.d D1, by rw [ev_get_tup, e]; rfl, h⟩
theorem atI_0 {α : Type} {x : α} {xs : List α} : atI (x :: xs) 0 = some x := by rw [atI_nn (by decide)]; rfl
theorem atI_1 {α : Type} {x y : α} {xs : List α} : atI (x :: y :: xs) 1 = some y := by rw [atI_nn (by decide)]; rfl
theorem atI_2 {α : Type} {x y z : α} {xs : List α} : atI (x :: y :: z :: xs) 2 = some z := by rw [atI_nn (by decide)]; rfl
theorem atI_3 {α : Type} {x y z w : α} {xs : List α} : atI (x :: y :: z :: w :: xs) 3 = some w := by rw [atI_nn (by decide)]; rfl
theorem atI_4 {α : Type} {x y z w v : α} {xs : List α} : atI (x :: y :: z :: w :: v :: xs) 4 = some v := by rw [atI_nn (by decide)]; rfl
theorem wO_cut_lst {lo hi : Option Int} (h : P (.fr (.lst (cutD xs lo hi)))) : wO (oCut (.lst xs) lo hi) P := ⟨_, rfl, h⟩
theorem wO_cut_kl {lo hi : Option Int} (h : P (.fr (.lst (cutD xs lo hi)))) : wO (oCut (.kl xs) lo hi) P := ⟨_, rfl, h⟩
theorem wO_cut_str {lo hi : Option Int} (l : x.length ≤ sizeLine) (h : P (.d (.str (cutS x lo hi)))) : wO (oCut (.str x) lo hi) P := ⟨_, cut_str l lo hi, h⟩
end
end DV
namespace DV
open PySem PySem.Spec PyProof.Rows L2
section
variable {α : Type} {ρ ρ' S S' T : List Sl} {E : XQ} {i j n k c : Nat} {QF : Fl → List Sl → List Sl → Prop} {QR : Rv → List Sl → List Sl → Prop} {QD : D → List Sl → List Sl → Prop} {d : D} {fs : List (Str × D)} {f g : Str}
theorem gd_wp {c : M α} {Q : α → List Sl → List Sl → Prop} (h : wp c ρ S Q E) : wp c ρ S Q E := h
theorem gd_wO {o : Option α} {P : α → Prop} (h : wO o P) : wO o P := h
theorem gd_wC {r : Rv} {P : D → Prop} (h : wC r ρ S P) : wC r ρ S P := h
theorem wG_len {a b c d : Nat} {q : Prop} (h : a = b) (k : c = d) (z : q) : wG (a = b ∧ c = d) q := ⟨⟨h, k⟩, z⟩
theorem wG_eqt {b : Bool} {q : Prop} (h : b = true) (z : q) : wG (b = true) q := ⟨h, z⟩
theorem wG_le {a b : Nat} {q : Prop} (h : a ≤ b) (z : q) : wG (a ≤ b) q := ⟨h, z⟩
theorem le_lit {a : Nat} (h : Nat.ble a 1000 = true) : a ≤ sizeLine := le_line (Nat.le_of_ble_eq_true h)
theorem wO_isi_t {n : Nat} {sub : Nat → Nat → Bool} {ds : List D} {P : Bool → Prop} (e : isiR n sub S ds = some true) (h : P true) : wO (isiR n sub S ds) P := ⟨_, e, h⟩
theorem wO_isi_f {n : Nat} {sub : Nat → Nat → Bool} {ds : List D} {P : Bool → Prop} (e : isiR n sub S ds = some false) (h : P false) : wO (isiR n sub S ds) P := ⟨_, e, h⟩
theorem tyD_s {z : Str} : tyD "str" (.str z) = true := by simp [tyD]
theorem tyD_l {z : List D} : tyD "list" (.lst z) = true := by simp [tyD]
theorem tyD_kl {z : List D} : tyD "list" (.kl z) = true := by simp [tyD]
theorem tyS_l {z : List D} : tyS "list" (.lst z) = true := by simp [tyS]
theorem wO_is_t {neg : Bool} {D1 : D} {P : Rv → Prop} (e : (neg != D1.isNon) = true) (h : P (.d (.bl true))) : wO (oIs neg D1 .non) P := wO_is_non (by rw [e]; exact h)
theorem wO_is_f {neg : Bool} {D1 : D} {P : Rv → Prop} (e : (neg != D1.isNon) = false) (h : P (.d (.bl false))) : wO (oIs neg D1 .non) P := wO_is_non (by rw [e]; exact h)
theorem wI_not {b : Bool} {p q : Prop} (h : wI b q p) : wI (!b) p q := by cases b <;> exact h
theorem wI_tt {p q : Prop} (h : p) : wI (true == true) p q := h
theorem wI_ff {p q : Prop} (h : p) : wI (false == false) p q := h
theorem wI_tf {p q : Prop} (h : q) : wI (true == false) p q := wI_neg rfl h
theorem wI_ft {p q : Prop} (h : q) : wI (false == true) p q := wI_neg rfl h
theorem wI_dpos {c p q : Prop} [Decidable c] (h : c) (k : p) : wI (decide c) p q := wI_pos (decide_eq_true h) k
theorem wI_dneg {c p q : Prop} [Decidable c] (h : ¬ c) (k : q) : wI (decide c) p q := wI_neg (decide_eq_false h) k
theorem wQ_own1 {c : Nat} {fs : List (Str × D)} {g : D → D → Option Rv} {h : List D → List Sl → Res Rv} {e : D} (n : two2 g (some (.ins c fs)) (cont ρ S (.d e)) = none) (k : wA h [.ins c fs, e] ρ S QR E) : wQ g h (.d (.ins c fs)) (.d e) ρ S QR E := wQ_own n k
theorem wW_own1 {c : Nat} {fs : List (Str × D)} {g : List D → Option Rv} {h : List D → List Sl → Res Rv} (n : one1 g (some (.ins c fs)) = none) (k : wA h [.ins c fs] ρ S QR E) : wW g h (.d (.ins c fs)) ρ S QR E := wW_own n k
def lk (f : Str) (fs : List (Str × D)) (d : D) : Prop := fs.lookup f = some d
def lkn (f : Str) (fs : List (Str × D)) : Prop := fs.lookup f = none
theorem lk_z : lk f ((f, d) :: fs) d := by rw [lk, List.lookup_cons]; simp
theorem lk_s {x : D} (n : (f == g) = false) (h : lk f fs d) : lk f ((g, x) :: fs) d := by rw [lk, List.lookup_cons, n]; exact h
theorem lkn_nil : lkn f [] := rfl
theorem lkn_cons {x : D} (n : (f == g) = false) (h : lkn f fs) : lkn f ((g, x) :: fs) := by rw [lkn, List.lookup_cons, n]; exact h
theorem wO_fld_ins {F : Nat → Str → Bool} {P : D → Prop} (t : F c f = true) (e : lk f fs d) (h : P d) : wO (fldR F f (getO (.d (.ins c fs)) ρ S)) P := ⟨d, by
  show (if F c f = true then fs.lookup f else none) = some d
  rw [if_pos t]; exact e, h⟩
theorem wG_self {mn : Str} {q : Prop} (h : lkn mn fs) (z : q) : wG (selfR c mn (.ins c fs) S = true) q := ⟨by
  show (decide (c = c) && (fs.lookup mn).isNone) = true
  rw [show fs.lookup mn = none from h]; simp, z⟩
theorem frz_obj : (Sl.ins c (objF fs)).frz = .ins c fs := by rw [Sl.frz, frz_objF]
theorem wF_fro (h : QD (.ins c fs) ρ S) : wF (.fr (.ins c (objF fs))) ρ S QD := wF_fr frz_obj h
theorem wZ_fro {P : Rv → Prop} (h : P (.d (.ins c fs))) : wZ (.fr (.ins c (objF fs))) P := wZ_fr frz_obj h
theorem wS_fro (e : st ρ i (.val (.ins c fs)) ρ') (h : QF .nx ρ' S) : wS false i (.fr (.ins c (objF fs))) ρ S QF := wS_frf frz_obj e h
end
section
variable {T : List Sl} {b : Sl} {n : Int} {Q : Rv → List Sl → Prop} {E : Exn → List Sl → Prop}
theorem draw_w (hb : Bag b) (h0 : 0 < n) (h1 : n < 1152921504606846976) (h : ∀ v b', Bag b' → 0 ≤ v → v < n → Q (.d (.int v)) (b' :: T)) : wm drawM [.ob 0, .int n] (b :: T) Q E := by
  obtain ⟨v, b', v0, v1, hb', e⟩ := Bag.draw n hb h0 h1
  exact wm_ok (e T) (h v b' hb' v0 v1)
theorem of_lst_w (hb : Bag b) {ds : List D} (h0 : 0 < ds.length) (h1 : ds.length < 1000) (h : ∀ d b', Bag b' → d ∈ ds → Q (.d d) (b' :: T)) : wm ofM [.ob 0, .lst ds] (b :: T) Q E := by
  obtain ⟨v, b', m, hb', e⟩ := hb.of_lst h0 h1
  exact wm_ok (e T) (h v b' hb' m)
theorem open_w {ns : List Int} {S : List Sl} (h : ∀ b, Bag (.lst b) → Q (.fr (.lst b)) S) : wm openM [.kl (ns.map .int)] S Q E := by
  obtain ⟨b, hb, e⟩ := open_ok ns S
  exact wm_ok e (h b hb)
end
end DV
namespace DV
open PySem PySem.Spec PyProof.Rows L2
local macro_rules
  | `(tactic| simp_arith) => `(tactic| repeat (first
    | ((with_reducible refine DV.gd_wp ?_); first
      | ((with_reducible apply DV.wp_name); (focus ((repeat (first | with_reducible apply DV.nt_z | with_reducible apply DV.nt_s | with_reducible apply DV.nt_app | with_reducible apply DV.nt_app0)); done)))
      | with_reducible refine DV.wp_C ?_
      | with_reducible refine DV.wp_consD ?_
      | with_reducible refine DV.wp_nilD ?_
      | with_reducible refine DV.wp_consR ?_
      | with_reducible refine DV.wp_nilR ?_
      | with_reducible refine DV.wp_bin ?_
      | with_reducible refine DV.wp_seq ?_
      | with_reducible refine DV.wp_set ?_
      | with_reducible refine DV.wp_ifS ?_
      | with_reducible refine DV.wp_tst ?_
      | with_reducible refine DV.wp_blt ?_
      | with_reducible refine DV.wp_call ?_
      | with_reducible refine DV.wp_ret ?_
      | with_reducible refine DV.wp_nx ?_
      | with_reducible refine DV.wp_andB ?_
      | with_reducible refine DV.wp_orB ?_
      | with_reducible refine DV.wp_notB ?_
      | with_reducible refine DV.wp_tru ?_
      | with_reducible refine DV.wp_if ?_
      | with_reducible refine DV.wp_and ?_
      | with_reducible refine DV.wp_or ?_
      | with_reducible refine DV.wp_not ?_
      | with_reducible refine DV.wp_put ?_
      | with_reducible refine DV.wp_mm ?_
      | with_reducible refine DV.wp_lst ?_
      | with_reducible refine DV.wp_tup ?_
      | with_reducible refine DV.wp_chain ?_
      | with_reducible refine DV.wp_isi ?_
      | with_reducible refine DV.wp_for ?_
      | with_reducible refine DV.wp_forO ?_
      | with_reducible refine DV.wp_its ?_
      | with_reducible refine DV.wp_itsO ?_
      | with_reducible refine DV.wp_enumO ?_
      | with_reducible refine DV.wp_enumA ?_
      | with_reducible refine DV.wp_rng1 ?_
      | with_reducible refine DV.wp_rng2 ?_
      | with_reducible refine DV.wp_zip ?_
      | with_reducible refine DV.wp_lc ?_
      | with_reducible refine DV.wp_lcO ?_
      | with_reducible refine DV.wp_yes ?_
      | with_reducible refine DV.wp_mt ?_
      | with_reducible refine DV.wp_sl ?_
      | with_reducible refine DV.wp_noP ?_
      | with_reducible refine DV.wp_part ?_
      | with_reducible refine DV.wp_neg ?_
      | with_reducible refine DV.wp_drop ?_
      | with_reducible refine DV.wp_retN ?_
      | with_reducible refine DV.wp_sto ?_
      | with_reducible refine DV.wp_stoE ?_
      | with_reducible refine DV.wp_par ?_
      | with_reducible refine DV.wp_par3 ?_
      | with_reducible refine DV.wp_setT ?_
      | with_reducible refine DV.wp_fld ?_
      | with_reducible refine DV.wp_fst ?_
      | with_reducible refine DV.wp_meth ?_
      | with_reducible refine DV.wp_prop ?_
      | with_reducible refine DV.wp_kon ?_
      | with_reducible refine DV.wp_fmt ?_
      | with_reducible refine DV.wp_js ?_
      | with_reducible refine DV.wp_jsN ?_
      | with_reducible refine DV.wp_jsC ?_
      | with_reducible refine DV.wp_op2 ?_
      | with_reducible refine DV.wp_op1 ?_
      | ((with_reducible apply DV.wp_nameO); (focus ((repeat (first | with_reducible apply DV.nt_z | with_reducible apply DV.nt_s | with_reducible apply DV.nt_app | with_reducible apply DV.nt_app0)); done)); exact rfl)
      | ((with_reducible apply DV.wp_nameI); (focus ((repeat (first | with_reducible apply DV.nt_z | with_reducible apply DV.nt_s | with_reducible apply DV.nt_app | with_reducible apply DV.nt_app0)); done))))
    | ((with_reducible refine DV.gd_wO ?_); first
      | with_reducible refine DV.wO_add_int ?_
      | with_reducible refine DV.wO_sub_int ?_
      | ((with_reducible refine DV.wO_mul_int (Or.inr (Or.inl ?_)) ?_); decide)
      | ((with_reducible refine DV.wO_mul_int (Or.inl ?_) ?_); decide)
      | ((with_reducible refine DV.wO_mod_int ?_ ?_); decide)
      | ((with_reducible refine DV.wO_fdiv_int ?_ ?_ ?_); decide; decide)
      | with_reducible refine DV.wO_lt_int ?_
      | with_reducible refine DV.wO_le_int ?_
      | with_reducible refine DV.wO_gt_int ?_
      | with_reducible refine DV.wO_ge_int ?_
      | with_reducible refine DV.wO_eq_int ?_
      | with_reducible refine DV.wO_ne_int ?_
      | with_reducible refine DV.wO_eq_str ?_
      | with_reducible refine DV.wO_ne_str ?_
      | with_reducible refine DV.wO_eq_bl ?_
      | with_reducible refine DV.wO_ne_bl ?_
      | with_reducible refine DV.wO_in_str ?_
      | with_reducible refine DV.wO_get_lst DV.atI_0 ?_
      | with_reducible refine DV.wO_get_lst DV.atI_1 ?_
      | with_reducible refine DV.wO_get_lst DV.atI_2 ?_
      | with_reducible refine DV.wO_get_lst DV.atI_3 ?_
      | with_reducible refine DV.wO_get_lst DV.atI_4 ?_
      | with_reducible refine DV.wO_get_tup DV.atI_0 ?_
      | with_reducible refine DV.wO_get_tup DV.atI_1 ?_
      | with_reducible refine DV.wO_get_tup DV.atI_2 ?_
      | with_reducible refine DV.wO_get_tup DV.atI_3 ?_
      | with_reducible refine DV.wO_tru_bl ?_
      | with_reducible refine DV.wO_len_lst ?_
      | with_reducible refine DV.wO_len_tup ?_
      | with_reducible refine DV.wO_len_kl ?_
      | with_reducible refine DV.wO_len_kt ?_
      | with_reducible refine DV.wO_gint ?_
      | with_reducible refine DV.wO_gabs ?_
      | with_reducible refine DV.wO_list_lst ?_
      | with_reducible refine DV.wO_list_kl ?_
      | with_reducible refine DV.wO_list_tup ?_
      | with_reducible refine DV.wO_list_kt ?_
      | ((with_reducible refine DV.wO_list_str ?_ ?_); focus first | assumption | exact DV.le_line (by decide +kernel))
      | ((with_reducible refine DV.wO_len_str ?_ ?_); focus first | assumption | exact DV.le_line (by decide +kernel))
      | ((with_reducible refine DV.wO_tru_str ?_ ?_); focus first | assumption | exact DV.le_line (by decide +kernel))
      | ((with_reducible refine DV.wO_cut_str ?_ ?_); focus first | assumption | exact DV.le_line (by decide +kernel))
      | with_reducible refine DV.wO_tup_lst ?_
      | with_reducible refine DV.wO_tup_tup ?_
      | ((with_reducible refine DV.wO_isi_t ?_ ?_); exact rfl)
      | ((with_reducible refine DV.wO_isi_f ?_ ?_); exact rfl)
      | ((with_reducible refine DV.wO_is_t ?_ ?_); exact rfl)
      | ((with_reducible refine DV.wO_is_f ?_ ?_); exact rfl)
      | ((with_reducible refine DV.wO_rng1 ?_ ?_); decide)
      | ((with_reducible refine DV.wO_rng2 ?_ ?_); decide)
      | with_reducible refine DV.wO_zip_ll ?_
      | with_reducible refine DV.wO_zip_tt ?_
      | with_reducible refine DV.wO_zip_tk ?_
      | with_reducible refine DV.wO_zip_kt ?_
      | with_reducible refine DV.wO_its_lst ?_
      | with_reducible refine DV.wO_its_kl ?_
      | with_reducible refine DV.wO_its_tup ?_
      | with_reducible refine DV.wO_its_kt ?_
      | with_reducible refine DV.wO_its_str ?_
      | with_reducible refine DV.wO_src_lst ?_
      | with_reducible refine DV.wO_src_kl ?_
      | with_reducible refine DV.wO_src_tup ?_
      | with_reducible refine DV.wO_src_kt ?_
      | with_reducible refine DV.wO_src_str ?_
      | ((with_reducible apply DV.wO_src_ob); (focus ((repeat (first | with_reducible apply DV.nt_z | with_reducible apply DV.nt_s | with_reducible apply DV.nt_app | with_reducible apply DV.nt_app0)); done)))
      | with_reducible refine DV.wO_esrc_lst ?_
      | with_reducible refine DV.wO_esrc_kl ?_
      | with_reducible refine DV.wO_esrc_tup ?_
      | with_reducible refine DV.wO_esrc_kt ?_
      | with_reducible refine DV.wO_esrc_str ?_
      | ((with_reducible apply DV.wO_esrc_ob); (focus ((repeat (first | with_reducible apply DV.nt_z | with_reducible apply DV.nt_s | with_reducible apply DV.nt_app | with_reducible apply DV.nt_app0)); done)))
      | with_reducible refine DV.wO_part ?_
      | with_reducible refine DV.wO_cut_lst ?_
      | with_reducible refine DV.wO_cut_kl ?_
      | with_reducible refine DV.wO_asInt ?_
      | ((with_reducible apply DV.wO_fld_ins); focus decide +kernel))
    | ((with_reducible refine DV.gd_wC ?_); first
      | with_reducible refine DV.wC_int ?_
      | with_reducible refine DV.wC_str ?_
      | with_reducible refine DV.wC_lst ?_
      | with_reducible refine DV.wC_tup ?_
      | ((with_reducible apply DV.wC_ob); (focus ((repeat (first | with_reducible apply DV.nt_z | with_reducible apply DV.nt_s | with_reducible apply DV.nt_app | with_reducible apply DV.nt_app0)); done)))
      | ((with_reducible apply DV.wC_env); (focus ((repeat (first | with_reducible apply DV.nt_z | with_reducible apply DV.nt_s | with_reducible apply DV.nt_app | with_reducible apply DV.nt_app0)); done)))
      | with_reducible refine DV.wC_frl ?_
      | with_reducible refine DV.wC_bl ?_
      | with_reducible refine DV.wC_non ?_
      | with_reducible refine DV.wC_kl ?_
      | with_reducible refine DV.wC_kt ?_
      | with_reducible refine DV.wC_ty ?_
      | with_reducible refine DV.wC_cl ?_
      | with_reducible refine DV.wC_ins ?_)
    | with_reducible apply DV.nt_z
    | with_reducible apply DV.nt_s
    | with_reducible apply DV.st_z
    | with_reducible apply DV.st_s
    | with_reducible refine DV.wF_d ?_
    | with_reducible refine DV.wCs_cons ?_
    | with_reducible refine DV.wCs_nil ?_
    | with_reducible refine DV.wN_nx ?_
    | with_reducible apply DV.wS_d
    | with_reducible apply DV.wS_frfl
    | with_reducible apply DV.wS_frt
    | with_reducible refine DV.wB_mk ?_
    | with_reducible refine DV.wI_t ?_
    | with_reducible refine DV.wI_f ?_
    | with_reducible refine DV.wI_not ?_
    | with_reducible refine DV.wI_tt ?_
    | with_reducible refine DV.wI_ff ?_
    | with_reducible refine DV.wI_tf ?_
    | with_reducible refine DV.wI_ft ?_
    | ((with_reducible refine DV.wI_dpos ?_ ?_); (focus first | assumption | omega | exact of_decide_eq_true rfl))
    | ((with_reducible refine DV.wI_dneg ?_ ?_); (focus first | assumption | omega | exact of_decide_eq_false rfl))
    | ((with_reducible refine DV.wG_len ?_ ?_ ?_); exact rfl; exact rfl)
    | with_reducible apply DV.wArg_mk
    | with_reducible apply DV.aq_pick
    | with_reducible apply DV.aq_aa
    | with_reducible apply DV.aq_acons
    | with_reducible apply DV.aq_anil
    | with_reducible apply DV.aq_cons
    | with_reducible apply DV.aq_nil
    | with_reducible apply DV.pn_cons
    | with_reducible apply DV.pn_nil
    | with_reducible apply DV.nd_z
    | with_reducible apply DV.nd_s
    | with_reducible refine DV.wV_d ?_
    | with_reducible refine DV.wV_fr ?_
    | ((with_reducible apply DV.wV_env); (focus ((repeat (first | with_reducible apply DV.nt_z | with_reducible apply DV.nt_s | with_reducible apply DV.nt_app | with_reducible apply DV.nt_app0)); done)); (focus exact rfl))
    | with_reducible refine DV.wEnd_rt ?_
    | with_reducible refine DV.wEnd_nx ?_
    | with_reducible refine DV.wN_rt ?_
    | with_reducible refine DV.wN_bk ?_
    | with_reducible refine DV.wN_ct ?_
    | with_reducible refine DV.wJ_nx ?_
    | with_reducible refine DV.wJ_rt ?_
    | with_reducible refine DV.wJ_bk ?_
    | with_reducible refine DV.wJ_ct ?_
    | ((with_reducible apply DV.wP_ob); (focus ((repeat (first | with_reducible apply DV.nt_z | with_reducible apply DV.nt_s | with_reducible apply DV.nt_app | with_reducible apply DV.nt_app0)); done)); exact rfl)
    | ((with_reducible apply DV.wP_env); (focus ((repeat (first | with_reducible apply DV.nt_z | with_reducible apply DV.nt_s | with_reducible apply DV.nt_app | with_reducible apply DV.nt_app0)); done)); exact rfl)
    | with_reducible apply DV.wU_ob
    | with_reducible apply DV.wU_env
    | ((with_reducible refine DV.wG_eqt ?_ ?_); focus first | with_reducible exact DV.tyD_s | with_reducible exact DV.tyD_l | with_reducible exact DV.tyS_l | with_reducible exact DV.tyD_kl)
    | ((with_reducible refine DV.wG_le ?_ ?_); exact DV.le_lit rfl)
    | with_reducible refine DV.wF_frl ?_
    | with_reducible refine DV.wF_fro ?_
    | with_reducible refine DV.wLO_its ?_
    | with_reducible refine DV.wKO_its ?_
    | with_reducible apply DV.wX_mk
    | with_reducible apply DV.wq_nil
    | with_reducible apply DV.wq_cons
    | with_reducible apply DV.tq_nm
    | with_reducible apply DV.tq_tp0
    | with_reducible apply DV.tq_tp
    | with_reducible apply DV.wSto_lst
    | with_reducible apply DV.wStoE_lst
    | with_reducible apply DV.pu_nil
    | with_reducible apply DV.pu_cons
    | with_reducible apply DV.pu_app
    | with_reducible apply DV.pu_var
    | with_reducible apply DV.nt_app
    | with_reducible apply DV.nt_app0
    | with_reducible apply DV.st_app
    | with_reducible apply DV.st_app0
    | with_reducible apply DV.wPar_mk
    | with_reducible apply DV.wPar3_mk
    | with_reducible apply DV.lk_z
    | ((with_reducible refine DV.lk_s ?_ ?_); focus decide +kernel)
    | with_reducible apply DV.lkn_nil
    | ((with_reducible refine DV.lkn_cons ?_ ?_); focus decide +kernel)
    | with_reducible refine DV.wG_self ?_ ?_
    | with_reducible refine DV.wZ_d ?_
    | ((with_reducible refine DV.wQ_own1 ?_ ?_); exact rfl)
    | with_reducible refine DV.wQ_blt ?_
    | ((with_reducible refine DV.wW_own1 ?_ ?_); exact rfl)
    | with_reducible refine DV.wW_blt ?_
    | with_reducible refine DV.wZ_frl ?_
    | with_reducible refine DV.wZ_fro ?_
    | with_reducible refine DV.wZ_env ?_
    | with_reducible apply DV.wS_fro
    | with_reducible apply DV.ev_cons
    | with_reducible apply DV.ev_nil
    | with_reducible apply DV.rp_s
    | with_reducible apply DV.rp_z
    | with_reducible apply DV.evI_mk
    ))
section
variable {n : Nat} {sub : Nat → Nat → Bool}
def sameC2 (n : Nat) (sub : Nat → Nat → Bool) (rec : List D → List Sl → Res Rv) : M Fl := (cSeq (cIfS (cOrB (cTst (cBin (oIs false) (cName 1) (cC .non))) (cTst (cBin (oIs false) (cName 0) (cC .non)))) (cRet (cAnd (cBin (oIs false) (cName 1) (cC .non)) (cBin (oIs false) (cName 0) (cC .non)))) cNx)
    (cSeq (cIfS (cTru (cIsi n sub (cConsD (cName 1) (cConsD (cTup (cConsD (cC (.ty "list")) (cConsD (cC (.ty "tuple")) cNilD))) cNilD)))) (cSeq (cIfS (cOrB (cTst (cBin (oEq true) (cIsi n sub (cConsD (cName 0) (cConsD (cC (.ty "list")) cNilD))) (cIsi n sub (cConsD (cName 1) (cConsD (cC (.ty "list")) cNilD))))) (cTst (cBin (oEq true) (cIsi n sub (cConsD (cName 0) (cConsD (cC (.ty "tuple")) cNilD))) (cIsi n sub (cConsD (cName 1) (cConsD (cC (.ty "tuple")) cNilD)))))) (cRet (cC (.bl false))) cNx)
    (cRet (cAnd (cBin (oEq false) (cBlt gLen (cConsR (cName 0) cNilR)) (cBlt gLen (cConsR (cName 1) cNilR))) (cBlt gAll (cConsR (cLc (cZip (cConsD (cName 0) (cConsD (cName 1) cNilD))) [2, 3] (.tp [2, 3]) cYes (cCall rec 2 0 cb2 (cConsD (cName 2) (cConsD (cName 3) cNilD)) cNilD)) cNilR))))) cNx)
    (cSeq (cIfS (cOrB (cTst (cBin (oEq true) (cIsi n sub (cConsD (cName 1) (cConsD (cC (.ty "bool")) cNilD))) (cIsi n sub (cConsD (cName 0) (cConsD (cC (.ty "bool")) cNilD))))) (cTst (cBin (oEq true) (cIsi n sub (cConsD (cName 1) (cConsD (cC (.ty "int")) cNilD))) (cIsi n sub (cConsD (cName 0) (cConsD (cC (.ty "int")) cNilD)))))) (cRet (cC (.bl false))) cNx)
    (cRet (cAnd (cBin (oEq false) (cIsi n sub (cConsD (cName 1) (cConsD (cC (.ty "str")) cNilD))) (cIsi n sub (cConsD (cName 0) (cConsD (cC (.ty "str")) cNilD)))) (cBin (oEq false) (cName 0) (cName 1)))))))
def sameM2 (n : Nat) (sub : Nat → Nat → Bool) : Nat → List D → List Sl → Res Rv
  | 0 => fun _ _ => .bad
  | k + 1 => defM 4 (sameC2 n sub (sameM2 n sub k))
/-- the comparison says True and changes nothing -/
def Sq (n : Nat) (sub : Nat → Nat → Bool) (k : Nat) (x y : D) : Prop := ∀ S, wm (sameM2 n sub k) [x, y] S (fun r S' => r = .d (.bl true) ∧ S' = S) fun _ _ => False
theorem Sq.w {k : Nat} {x y : D} {S : List Sl} {Q : Rv → List Sl → Prop} {E : Exn → List Sl → Prop} (h : Sq n sub k x y) (q : Q (.d (.bl true)) S) : wm (sameM2 n sub k) [x, y] S Q E :=
  wm_cut (h S) fun a S' ⟨e, e2⟩ => by subst e e2; exact q
set_option maxHeartbeats 0 in
theorem sq_non {k : Nat} : Sq n sub (k + 1) .non .non := fun S => by
  show wm (defM 4 (sameC2 n sub (sameM2 n sub k))) _ _ _ _
  unfold sameC2
  apply wm_def
  simp_arith
  exact ⟨rfl, rfl⟩
set_option maxHeartbeats 0 in
theorem sq_int {k : Nat} {a : Int} : Sq n sub (k + 1) (.int a) (.int a) := fun S => by
  show wm (defM 4 (sameC2 n sub (sameM2 n sub k))) _ _ _ _
  unfold sameC2
  apply wm_def
  simp_arith
  exact ⟨by simp, rfl⟩
set_option maxHeartbeats 0 in
theorem sq_str {k : Nat} {a : Str} : Sq n sub (k + 1) (.str a) (.str a) := fun S => by
  show wm (defM 4 (sameC2 n sub (sameM2 n sub k))) _ _ _ _
  unfold sameC2
  apply wm_def
  simp_arith
  exact ⟨by simp, rfl⟩
set_option maxHeartbeats 0 in
theorem sq_bl {k : Nat} {a : Bool} : Sq n sub (k + 1) (.bl a) (.bl a) := fun S => by
  show wm (defM 4 (sameC2 n sub (sameM2 n sub k))) _ _ _ _
  unfold sameC2
  apply wm_def
  simp_arith
  exact ⟨by simp, rfl⟩
theorem zip_sq {k : Nat} {xs ys : List D} (h : Paired (Sq n sub k) xs ys) : ∀ d ∈ zipD xs ys, ∃ x y, d = .tup [x, y] ∧ Sq n sub k x y := zipD_paired h
theorem zip_len : ∀ {xs ys : List D}, (zipD xs ys).length ≤ xs.length
  | [], _ => Nat.zero_le _
  | _ :: _, [] => Nat.zero_le _
  | _ :: xs, _ :: ys => Nat.succ_le_succ (zip_len (xs := xs) (ys := ys))
theorem all_true (ds : List D) : blsD ((ds.filter fun _ => true).map fun _ => D.bl true) = some (List.replicate ds.length true) := by
  induction ds with
  | nil => rfl
  | cons d r ih =>
    rw [List.filter_cons, if_pos rfl, List.map_cons, blsD, ih]
    rfl
set_option maxHeartbeats 0 in
theorem sq_lst {k : Nat} {xs ys : List D} (h : Paired (Sq n sub k) xs ys) (hl : xs.length ≤ 1000) : Sq n sub (k + 1) (.lst xs) (.lst ys) := fun S => by iterate
  show wm (defM 4 (sameC2 n sub (sameM2 n sub k))) _ _ _ _
  unfold sameC2
  apply wm_def
  simp_arith
  refine wI_dpos (by rw [paired_len h]) ?_
  simp_arith
  refine wK_pure (fun _ => true) (fun _ => .bl true) (le_line (Nat.le_trans zip_len hl)) ?_ ?_
  · intro d hd
    obtain ⟨x, y, rfl, z⟩ := zip_sq h d hd
    simp_arith
    refine wA_mk (Sq.w z ?_)
    simp_arith
    refine ⟨rfl, rfl, ?_, rfl⟩
    simp_arith
  · simp_arith
    refine wO_all (all_true _) ?_
    simp_arith
    exact ⟨by simp, rfl⟩
set_option maxHeartbeats 0 in
theorem sq_tup {k : Nat} {xs ys : List D} (h : Paired (Sq n sub k) xs ys) (hl : xs.length ≤ 1000) : Sq n sub (k + 1) (.tup xs) (.tup ys) := fun S => by iterate
  show wm (defM 4 (sameC2 n sub (sameM2 n sub k))) _ _ _ _
  unfold sameC2
  apply wm_def
  simp_arith
  refine wI_dpos (by rw [paired_len h]) ?_
  simp_arith
  refine wK_pure (fun _ => true) (fun _ => .bl true) (le_line (Nat.le_trans zip_len hl)) ?_ ?_
  · intro d hd
    obtain ⟨x, y, rfl, z⟩ := zip_sq h d hd
    simp_arith
    refine wA_mk (Sq.w z ?_)
    simp_arith
    refine ⟨rfl, rfl, ?_, rfl⟩
    simp_arith
  · simp_arith
    refine wO_all (all_true _) ?_
    simp_arith
    exact ⟨by simp, rfl⟩
/-- data of small depth, with nothing of objects -/
def Pl : Nat → D → Prop
  | 0, _ => False
  | k + 1, d => match d with
    | .non => True
    | .bl _ => True
    | .int _ => True
    | .str _ => True
    | .lst xs => xs.length ≤ 1000 ∧ ∀ x ∈ xs, Pl k x
    | .tup xs => xs.length ≤ 1000 ∧ ∀ x ∈ xs, Pl k x
    | _ => False
theorem same_refl : ∀ (k : Nat) (d : D), Pl k d → Sq n sub k d d
  | 0, _, h => h.elim
  | k + 1, d, h => by iterate
    have go : ∀ xs : List D, (∀ x ∈ xs, Pl k x) → Paired (Sq n sub k) xs xs := by
      intro xs
      induction xs with
      | nil => exact fun _ => .nil
      | cons x r ih => exact fun h => .cons (same_refl k x (h x (List.mem_cons_self ..))) (ih fun y hy => h y (List.mem_cons_of_mem _ hy))
    cases d with
    | non => exact sq_non
    | bl b => exact sq_bl
    | int i => exact sq_int
    | str x => exact sq_str
    | lst xs => exact sq_lst (go xs h.2) h.1
    | tup xs => exact sq_tup (go xs h.2) h.1
    | _ => exact h.elim
theorem same_w {k : Nat} {x y : D} {S : List Sl} {Q : Rv → List Sl → Prop} {E : Exn → List Sl → Prop} (e : x = y) (h : Pl k y) (q : Q (.d (.bl true)) S) : wm (sameM2 n sub k) [x, y] S Q E := by
  subst e
  exact (same_refl k x h).w q
theorem pl_nil {P : D → Prop} : ∀ x ∈ ([] : List D), P x := fun _ h => nomatch h
theorem pl_cons {P : D → Prop} {x : D} {xs : List D} (h : P x) (k : ∀ x ∈ xs, P x) : ∀ y ∈ x :: xs, P y := fun y hy => (List.mem_cons.mp hy).elim (fun e => e ▸ h) (k y)
theorem pl_lst {k : Nat} {xs : List D} (l : xs.length ≤ 1000) (h : ∀ x ∈ xs, Pl k x) : Pl (k + 1) (.lst xs) := ⟨l, h⟩
theorem pl_tup {k : Nat} {xs : List D} (l : xs.length ≤ 1000) (h : ∀ x ∈ xs, Pl k x) : Pl (k + 1) (.tup xs) := ⟨l, h⟩
theorem pl_int {k : Nat} {a : Int} : Pl (k + 1) (.int a) := trivial
theorem pl_str {k : Nat} {a : Str} : Pl (k + 1) (.str a) := trivial
theorem pl_bl {k : Nat} {a : Bool} : Pl (k + 1) (.bl a) := trivial
theorem pl_non {k : Nat} : Pl (k + 1) .non := trivial
end
structure EqD {α : Type} (e : α → D) (ok : α → Prop) (n : Nat) : Prop where
  ex : ∀ a, ok a → ∃ p, dat (e a) = some p ∧ p.canLay0 = true ∧ p.depth ≤ n
  eq : ∀ a b p q, ok a → ok b → dat (e a) = some p → dat (e b) = some q → (PyData.eqv p q = true ↔ a = b)
section
variable {α β : Type} {e : α → D} {ok : α → Prop} {e2 : β → D} {ok2 : β → Prop} {n m : Nat}
theorem EqD.int : EqD D.int (fun _ => True) 0 where
  ex := fun a _ => ⟨.int a, by rw [dat], by rw [PyData.canLay0], by rw [PyData.depth]; exact Nat.le_refl 0⟩
  eq := fun a b p q _ _ h k => by
    rw [dat] at h k
    cases h; cases k
    rw [PyData.eqv, beq_iff_eq]
theorem EqD.bl : EqD D.bl (fun _ => True) 0 where
  ex := fun a _ => ⟨.bool a, by rw [dat], by rw [PyData.canLay0], by rw [PyData.depth]; exact Nat.le_refl 0⟩
  eq := fun a b p q _ _ h k => by
    rw [dat] at h k
    cases h; cases k
    rw [PyData.eqv, beq_iff_eq]
theorem EqD.str : EqD D.str (fun x => PyData.strOk x = true) 0 where
  ex := fun a h => ⟨.str a, by rw [dat], by rw [PyData.canLay0]; exact h, by rw [PyData.depth]; exact Nat.le_refl 0⟩
  eq := fun a b p q _ _ h k => by
    rw [dat] at h k
    cases h; cases k
    rw [PyData.eqv, beq_iff_eq]
theorem EqD.all (E : EqD e ok n) : ∀ (xs : List α), (∀ x ∈ xs, ok x) → ∃ ps, datL (xs.map e) = some ps ∧ PyData.canLayAll0 ps = true ∧ PyData.depthAll ps ≤ n
  | [], _ => ⟨[], by rw [List.map_nil, datL], by rw [PyData.canLayAll0], by rw [PyData.depthAll]; exact Nat.zero_le _⟩
  | x :: xs, h => by
    obtain ⟨p, e1, e2, e3⟩ := E.ex x (h x (List.mem_cons_self ..))
    obtain ⟨ps, q1, q2, q3⟩ := E.all xs fun y hy => h y (List.mem_cons_of_mem _ hy)
    refine ⟨p :: ps, by rw [List.map_cons, datL, e1, q1], by rw [PyData.canLayAll0, e2, q2]; rfl, by rw [PyData.depthAll]; exact Nat.max_le.mpr ⟨e3, q3⟩⟩
theorem EqD.allEq (E : EqD e ok n) : ∀ (xs ys : List α) (ps qs : List PyData), (∀ x ∈ xs, ok x) → (∀ x ∈ ys, ok x) → datL (xs.map e) = some ps → datL (ys.map e) = some qs → (PyData.eqvAll ps qs = true ↔ xs = ys)
  | [], [], ps, qs, _, _, h, k => by
    rw [List.map_nil, datL] at h k
    cases h; cases k
    rw [PyData.eqvAll]; simp
  | [], y :: ys, ps, qs, _, ho, h, k => by
    obtain ⟨p, e1, _⟩ := E.ex y (ho y (List.mem_cons_self ..))
    obtain ⟨rs, q1, _⟩ := E.all ys fun z hz => ho z (List.mem_cons_of_mem _ hz)
    rw [List.map_nil, datL] at h
    rw [List.map_cons, datL, e1, q1] at k
    cases h; cases k
    rw [PyData.eqvAll]; simp
  | x :: xs, [], ps, qs, ho, _, h, k => by
    obtain ⟨p, e1, _⟩ := E.ex x (ho x (List.mem_cons_self ..))
    obtain ⟨rs, q1, _⟩ := E.all xs fun z hz => ho z (List.mem_cons_of_mem _ hz)
    rw [List.map_nil, datL] at k
    rw [List.map_cons, datL, e1, q1] at h
    cases h; cases k
    rw [PyData.eqvAll]; simp
  | x :: xs, y :: ys, ps, qs, ho, ho2, h, k => by iterate
    obtain ⟨p, e1, _⟩ := E.ex x (ho x (List.mem_cons_self ..))
    obtain ⟨rs, q1, _⟩ := E.all xs fun z hz => ho z (List.mem_cons_of_mem _ hz)
    obtain ⟨p2, e2, _⟩ := E.ex y (ho2 y (List.mem_cons_self ..))
    obtain ⟨rs2, q2, _⟩ := E.all ys fun z hz => ho2 z (List.mem_cons_of_mem _ hz)
    rw [List.map_cons, datL, e1, q1] at h
    rw [List.map_cons, datL, e2, q2] at k
    cases h; cases k
    rw [PyData.eqvAll, Bool.and_eq_true, E.eq x y p p2 (ho x (List.mem_cons_self ..)) (ho2 y (List.mem_cons_self ..)) e1 e2, E.allEq xs ys rs rs2 (fun z hz => ho z (List.mem_cons_of_mem _ hz)) (fun z hz => ho2 z (List.mem_cons_of_mem _ hz)) q1 q2, List.cons.injEq]
theorem EqD.lst (E : EqD e ok n) : EqD (fun xs : List α => D.lst (xs.map e)) (fun xs => ∀ x ∈ xs, ok x) (n + 1) where
  ex := fun xs h => by
    obtain ⟨ps, e1, e2, e3⟩ := E.all xs h
    exact ⟨.list ps, by rw [dat, e1]; rfl, by rw [PyData.canLay0]; exact e2, by rw [PyData.depth]; omega⟩
  eq := fun xs ys p q hx hy h k => by
    obtain ⟨ps, e1, _⟩ := E.all xs hx
    obtain ⟨qs, e2, _⟩ := E.all ys hy
    rw [dat, e1] at h
    rw [dat, e2] at k
    cases h; cases k
    rw [PyData.eqv]
    exact E.allEq xs ys ps qs hx hy e1 e2
theorem EqD.tup (E : EqD e ok n) : EqD (fun xs : List α => D.tup (xs.map e)) (fun xs => ∀ x ∈ xs, ok x) (n + 1) where
  ex := fun xs h => by
    obtain ⟨ps, e1, e2, e3⟩ := E.all xs h
    exact ⟨.tuple ps, by rw [dat, e1]; rfl, by rw [PyData.canLay0]; exact e2, by rw [PyData.depth]; omega⟩
  eq := fun xs ys p q hx hy h k => by
    obtain ⟨ps, e1, _⟩ := E.all xs hx
    obtain ⟨qs, e2, _⟩ := E.all ys hy
    rw [dat, e1] at h
    rw [dat, e2] at k
    cases h; cases k
    rw [PyData.eqv]
    exact E.allEq xs ys ps qs hx hy e1 e2
end
end DV
namespace DV
open PySem PySem.Spec PyProof.Rows L2
section
variable {X : Cx} {Γ : Gm} {W : WX} {w w0 w1 : Wd} {σ : L2.St} {ρ S : List Sl} {c k : Nat} {f : Addr} {fd : FuncData} {ps : List Str} {m : List D → List Sl → Res Rv} {g : D → D → Option Rv} {h : List D → List Sl → Res Rv} {r : R2} {a b : Expr} {ca cb : M Rv} {pos : Pos}
abbrev OwnIx (b : Expr) : Prop := ∀ o i, subscripted b true o i = runValue (.builtin "lifetime.subscript" ⟨[o, i], []⟩)
variable (X Γ W) in
def OpDI (g : List D → List Sl → Res Rv) : Prop := ∀ (value slice : Expr) (pins : List (Addr × Obj)) (s : Shared) (σ : L2.St) (H : Hp) (x y : V) (v u : Value) (Q : VK), Inv X pins σ H s → RelV x v → RelV y u → rDat Γ W g σ [x, y] H Q → OwnIx slice →
  wpAny (model X.prog X.w) X.A (subscriptTail value slice v u) (EP X pins σ Q) X.xe s
theorem OpDI.or {g g' : List D → List Sl → Res Rv} (h : OpDI X Γ W g) (h' : OpDI X Γ W g') : OpDI X Γ W (hOr g g') := fun value slice pins s σ H x y v u Q I rx ry q z => q.or.elim (fun q => h value slice pins s σ H x y v u Q I rx ry q z) (fun q => h' value slice pins s σ H x y v u Q I rx ry q z)
end
end DV
namespace DV
open PySem PySem.Spec PyProof.Rows L2
section
variable {X : Cx} {Γ : Gm} {W : WX} {P : List Nat} {w w0 w1 : Wd} {σ : L2.St} {ρ S : List Sl} {c k : Nat} {f : Addr} {fd : FuncData} {ps : List Str} {m : List D → List Sl → Res Rv} {h : List D → List Sl → Res Rv}
def cSetO (h : List D → List Sl → Res Rv) (cv co ci : M Rv) : M Fl := fun ρ S => (cD cv ρ S).bind fun d ρ S => (cD co ρ S).bind fun o ρ S => (cD ci ρ S).bind fun i ρ S => ((h [o, i, d] S).at ρ).bind fun _ ρ S => .ok .nx ρ S false
end
end DV
namespace DV
open PySem PySem.Spec PyProof.Rows L2
section
variable {ρ S : List Sl} {E : XQ} {QF : Fl → List Sl → List Sl → Prop} {h m : List D → List Sl → Res Rv} {cv co ci : M Rv} {c : Nat}
theorem wp_setO (k : wp cv ρ S (fun r ρ S => wF r ρ S fun d ρ S => wp co ρ S (fun r ρ S => wF r ρ S fun o ρ S => wp ci ρ S (fun r ρ S => wF r ρ S fun i ρ S => wA h [o, i, d] ρ S (fun _ ρ S => QF .nx ρ S) E) E) E) E) : wp (cSetO h cv co ci) ρ S QF E :=
  wr_bind (wr_cons (wp_D k) (fun d ρ S k => wr_bind (wr_cons (wp_D k) (fun o ρ S k => wr_bind (wr_cons (wp_D k) (fun i ρ S k => wr_bind (wr_cons (wr_at k) (fun _ _ _ h => h) fun _ _ _ h => h)) fun _ _ _ h => h)) fun _ _ _ h => h)) fun _ _ _ h => h)
end
end DV
namespace DV
open PySem PySem.Spec PyProof.Rows L2
end DV
namespace DV
open PySem PySem.Spec PyProof.Rows L2
section
variable {ρ S : List Sl} {E : XQ} {QR : Rv → List Sl → List Sl → Prop} {QL : List D → List Sl → List Sl → Prop} {vs : List Nat} {t : M Bool} {c : M Rv} {g : Tgt} {k : Nat}
theorem wO_items_lst {xs : List D} {P : List D → Prop} (h : P xs) : wO (D.itemsL (.lst xs)) P := ⟨_, rfl, h⟩
theorem wp_lenSet {c : M Rv} (h : wp c ρ S (fun r ρ S => wC r ρ S fun d => wO (D.itemsL d) fun xs => wO (keysD xs) fun ks => wG (ks.length + 1 < scanBound) (QR (.d (.int (metK ks ks.length).length)) ρ S)) E) : wp (cLenSet c) ρ S QR E :=
  wr_bind (wr_cons h (fun _ _ _ ⟨d, e, xs, e2, ks, e3, l, h⟩ => by simp only [e, Option.bind_some, e2, e3, if_pos l]; exact h) fun _ _ _ h => h)
end
local macro_rules
  | `(tactic| simp_arith) => `(tactic| repeat (first
    | ((with_reducible refine DV.gd_wp ?_); first
      | ((with_reducible apply DV.wp_name); (focus ((repeat (first | with_reducible apply DV.nt_z | with_reducible apply DV.nt_s | with_reducible apply DV.nt_app | with_reducible apply DV.nt_app0)); done)))
      | with_reducible refine DV.wp_C ?_
      | with_reducible refine DV.wp_consD ?_
      | with_reducible refine DV.wp_nilD ?_
      | with_reducible refine DV.wp_consR ?_
      | with_reducible refine DV.wp_nilR ?_
      | with_reducible refine DV.wp_bin ?_
      | with_reducible refine DV.wp_seq ?_
      | with_reducible refine DV.wp_set ?_
      | with_reducible refine DV.wp_ifS ?_
      | with_reducible refine DV.wp_tst ?_
      | with_reducible refine DV.wp_blt ?_
      | with_reducible refine DV.wp_call ?_
      | with_reducible refine DV.wp_ret ?_
      | with_reducible refine DV.wp_nx ?_
      | with_reducible refine DV.wp_andB ?_
      | with_reducible refine DV.wp_orB ?_
      | with_reducible refine DV.wp_notB ?_
      | with_reducible refine DV.wp_tru ?_
      | with_reducible refine DV.wp_if ?_
      | with_reducible refine DV.wp_and ?_
      | with_reducible refine DV.wp_or ?_
      | with_reducible refine DV.wp_not ?_
      | with_reducible refine DV.wp_put ?_
      | with_reducible refine DV.wp_mm ?_
      | with_reducible refine DV.wp_lst ?_
      | with_reducible refine DV.wp_tup ?_
      | with_reducible refine DV.wp_chain ?_
      | with_reducible refine DV.wp_isi ?_
      | with_reducible refine DV.wp_for ?_
      | with_reducible refine DV.wp_forO ?_
      | with_reducible refine DV.wp_its ?_
      | with_reducible refine DV.wp_itsO ?_
      | with_reducible refine DV.wp_enumO ?_
      | with_reducible refine DV.wp_enumA ?_
      | with_reducible refine DV.wp_rng1 ?_
      | with_reducible refine DV.wp_rng2 ?_
      | with_reducible refine DV.wp_zip ?_
      | with_reducible refine DV.wp_lc ?_
      | with_reducible refine DV.wp_lcO ?_
      | with_reducible refine DV.wp_yes ?_
      | with_reducible refine DV.wp_mt ?_
      | with_reducible refine DV.wp_sl ?_
      | with_reducible refine DV.wp_noP ?_
      | with_reducible refine DV.wp_part ?_
      | with_reducible refine DV.wp_neg ?_
      | with_reducible refine DV.wp_drop ?_
      | with_reducible refine DV.wp_retN ?_
      | with_reducible refine DV.wp_sto ?_
      | with_reducible refine DV.wp_stoE ?_
      | with_reducible refine DV.wp_par ?_
      | with_reducible refine DV.wp_par3 ?_
      | with_reducible refine DV.wp_setT ?_
      | with_reducible refine DV.wp_fld ?_
      | with_reducible refine DV.wp_fst ?_
      | with_reducible refine DV.wp_meth ?_
      | with_reducible refine DV.wp_prop ?_
      | with_reducible refine DV.wp_kon ?_
      | with_reducible refine DV.wp_fmt ?_
      | with_reducible refine DV.wp_js ?_
      | with_reducible refine DV.wp_jsN ?_
      | with_reducible refine DV.wp_jsC ?_
      | with_reducible refine DV.wp_op2 ?_
      | with_reducible refine DV.wp_op1 ?_
      | with_reducible refine DV.wp_lenSet ?_
      | with_reducible refine DV.wp_setO ?_
      | ((with_reducible apply DV.wp_nameO); (focus ((repeat (first | with_reducible apply DV.nt_z | with_reducible apply DV.nt_s | with_reducible apply DV.nt_app | with_reducible apply DV.nt_app0)); done)); exact rfl)
      | ((with_reducible apply DV.wp_nameI); (focus ((repeat (first | with_reducible apply DV.nt_z | with_reducible apply DV.nt_s | with_reducible apply DV.nt_app | with_reducible apply DV.nt_app0)); done))))
    | ((with_reducible refine DV.gd_wO ?_); first
      | with_reducible refine DV.wO_add_int ?_
      | with_reducible refine DV.wO_sub_int ?_
      | ((with_reducible refine DV.wO_mul_int (Or.inr (Or.inl ?_)) ?_); decide)
      | ((with_reducible refine DV.wO_mul_int (Or.inl ?_) ?_); decide)
      | ((with_reducible refine DV.wO_mod_int ?_ ?_); decide)
      | ((with_reducible refine DV.wO_fdiv_int ?_ ?_ ?_); decide; decide)
      | with_reducible refine DV.wO_lt_int ?_
      | with_reducible refine DV.wO_le_int ?_
      | with_reducible refine DV.wO_gt_int ?_
      | with_reducible refine DV.wO_ge_int ?_
      | with_reducible refine DV.wO_eq_int ?_
      | with_reducible refine DV.wO_ne_int ?_
      | with_reducible refine DV.wO_eq_str ?_
      | with_reducible refine DV.wO_ne_str ?_
      | with_reducible refine DV.wO_eq_bl ?_
      | with_reducible refine DV.wO_ne_bl ?_
      | with_reducible refine DV.wO_in_str ?_
      | with_reducible refine DV.wO_get_lst DV.atI_0 ?_
      | with_reducible refine DV.wO_get_lst DV.atI_1 ?_
      | with_reducible refine DV.wO_get_lst DV.atI_2 ?_
      | with_reducible refine DV.wO_get_lst DV.atI_3 ?_
      | with_reducible refine DV.wO_get_lst DV.atI_4 ?_
      | with_reducible refine DV.wO_get_tup DV.atI_0 ?_
      | with_reducible refine DV.wO_get_tup DV.atI_1 ?_
      | with_reducible refine DV.wO_get_tup DV.atI_2 ?_
      | with_reducible refine DV.wO_get_tup DV.atI_3 ?_
      | with_reducible refine DV.wO_tru_bl ?_
      | with_reducible refine DV.wO_len_lst ?_
      | with_reducible refine DV.wO_len_tup ?_
      | with_reducible refine DV.wO_len_kl ?_
      | with_reducible refine DV.wO_len_kt ?_
      | with_reducible refine DV.wO_gint ?_
      | with_reducible refine DV.wO_gabs ?_
      | with_reducible refine DV.wO_list_lst ?_
      | with_reducible refine DV.wO_list_kl ?_
      | with_reducible refine DV.wO_list_tup ?_
      | with_reducible refine DV.wO_list_kt ?_
      | ((with_reducible refine DV.wO_list_str ?_ ?_); focus first | assumption | exact DV.le_line (by decide +kernel))
      | ((with_reducible refine DV.wO_len_str ?_ ?_); focus first | assumption | exact DV.le_line (by decide +kernel))
      | ((with_reducible refine DV.wO_tru_str ?_ ?_); focus first | assumption | exact DV.le_line (by decide +kernel))
      | ((with_reducible refine DV.wO_cut_str ?_ ?_); focus first | assumption | exact DV.le_line (by decide +kernel))
      | with_reducible refine DV.wO_tup_lst ?_
      | with_reducible refine DV.wO_tup_tup ?_
      | ((with_reducible refine DV.wO_isi_t ?_ ?_); exact rfl)
      | ((with_reducible refine DV.wO_isi_f ?_ ?_); exact rfl)
      | ((with_reducible refine DV.wO_is_t ?_ ?_); exact rfl)
      | ((with_reducible refine DV.wO_is_f ?_ ?_); exact rfl)
      | ((with_reducible refine DV.wO_rng1 ?_ ?_); decide)
      | ((with_reducible refine DV.wO_rng2 ?_ ?_); decide)
      | with_reducible refine DV.wO_zip_ll ?_
      | with_reducible refine DV.wO_zip_tt ?_
      | with_reducible refine DV.wO_zip_tk ?_
      | with_reducible refine DV.wO_zip_kt ?_
      | with_reducible refine DV.wO_its_lst ?_
      | with_reducible refine DV.wO_its_kl ?_
      | with_reducible refine DV.wO_its_tup ?_
      | with_reducible refine DV.wO_its_kt ?_
      | with_reducible refine DV.wO_its_str ?_
      | with_reducible refine DV.wO_src_lst ?_
      | with_reducible refine DV.wO_src_kl ?_
      | with_reducible refine DV.wO_src_tup ?_
      | with_reducible refine DV.wO_src_kt ?_
      | with_reducible refine DV.wO_src_str ?_
      | ((with_reducible apply DV.wO_src_ob); (focus ((repeat (first | with_reducible apply DV.nt_z | with_reducible apply DV.nt_s | with_reducible apply DV.nt_app | with_reducible apply DV.nt_app0)); done)))
      | with_reducible refine DV.wO_esrc_lst ?_
      | with_reducible refine DV.wO_esrc_kl ?_
      | with_reducible refine DV.wO_esrc_tup ?_
      | with_reducible refine DV.wO_esrc_kt ?_
      | with_reducible refine DV.wO_esrc_str ?_
      | ((with_reducible apply DV.wO_esrc_ob); (focus ((repeat (first | with_reducible apply DV.nt_z | with_reducible apply DV.nt_s | with_reducible apply DV.nt_app | with_reducible apply DV.nt_app0)); done)))
      | with_reducible refine DV.wO_part ?_
      | with_reducible refine DV.wO_cut_lst ?_
      | with_reducible refine DV.wO_cut_kl ?_
      | with_reducible refine DV.wO_asInt ?_
      | with_reducible refine DV.wO_items_lst ?_
      | ((with_reducible apply DV.wO_fld_ins); focus decide +kernel))
    | ((with_reducible refine DV.gd_wC ?_); first
      | with_reducible refine DV.wC_int ?_
      | with_reducible refine DV.wC_str ?_
      | with_reducible refine DV.wC_lst ?_
      | with_reducible refine DV.wC_tup ?_
      | ((with_reducible apply DV.wC_ob); (focus ((repeat (first | with_reducible apply DV.nt_z | with_reducible apply DV.nt_s | with_reducible apply DV.nt_app | with_reducible apply DV.nt_app0)); done)))
      | ((with_reducible apply DV.wC_env); (focus ((repeat (first | with_reducible apply DV.nt_z | with_reducible apply DV.nt_s | with_reducible apply DV.nt_app | with_reducible apply DV.nt_app0)); done)))
      | with_reducible refine DV.wC_frl ?_
      | with_reducible refine DV.wC_bl ?_
      | with_reducible refine DV.wC_non ?_
      | with_reducible refine DV.wC_kl ?_
      | with_reducible refine DV.wC_kt ?_
      | with_reducible refine DV.wC_ty ?_
      | with_reducible refine DV.wC_cl ?_
      | with_reducible refine DV.wC_ins ?_)
    | with_reducible apply DV.nt_z
    | with_reducible apply DV.nt_s
    | with_reducible apply DV.st_z
    | with_reducible apply DV.st_s
    | with_reducible refine DV.wF_d ?_
    | with_reducible refine DV.wCs_cons ?_
    | with_reducible refine DV.wCs_nil ?_
    | with_reducible refine DV.wN_nx ?_
    | with_reducible apply DV.wS_d
    | with_reducible apply DV.wS_frfl
    | with_reducible apply DV.wS_frt
    | with_reducible refine DV.wB_mk ?_
    | with_reducible refine DV.wI_t ?_
    | with_reducible refine DV.wI_f ?_
    | with_reducible refine DV.wI_not ?_
    | with_reducible refine DV.wI_tt ?_
    | with_reducible refine DV.wI_ff ?_
    | with_reducible refine DV.wI_tf ?_
    | with_reducible refine DV.wI_ft ?_
    | ((with_reducible refine DV.wI_dpos ?_ ?_); (focus first | assumption | omega | exact of_decide_eq_true rfl))
    | ((with_reducible refine DV.wI_dneg ?_ ?_); (focus first | assumption | omega | exact of_decide_eq_false rfl))
    | ((with_reducible refine DV.wG_len ?_ ?_ ?_); exact rfl; exact rfl)
    | with_reducible apply DV.wArg_mk
    | with_reducible apply DV.aq_pick
    | with_reducible apply DV.aq_aa
    | with_reducible apply DV.aq_acons
    | with_reducible apply DV.aq_anil
    | with_reducible apply DV.aq_cons
    | with_reducible apply DV.aq_nil
    | with_reducible apply DV.pn_cons
    | with_reducible apply DV.pn_nil
    | with_reducible apply DV.nd_z
    | with_reducible apply DV.nd_s
    | with_reducible refine DV.wV_d ?_
    | with_reducible refine DV.wV_fr ?_
    | ((with_reducible apply DV.wV_env); (focus ((repeat (first | with_reducible apply DV.nt_z | with_reducible apply DV.nt_s | with_reducible apply DV.nt_app | with_reducible apply DV.nt_app0)); done)); (focus exact rfl))
    | with_reducible refine DV.wEnd_rt ?_
    | with_reducible refine DV.wEnd_nx ?_
    | with_reducible refine DV.wN_rt ?_
    | with_reducible refine DV.wN_bk ?_
    | with_reducible refine DV.wN_ct ?_
    | with_reducible refine DV.wJ_nx ?_
    | with_reducible refine DV.wJ_rt ?_
    | with_reducible refine DV.wJ_bk ?_
    | with_reducible refine DV.wJ_ct ?_
    | ((with_reducible apply DV.wP_ob); (focus ((repeat (first | with_reducible apply DV.nt_z | with_reducible apply DV.nt_s | with_reducible apply DV.nt_app | with_reducible apply DV.nt_app0)); done)); exact rfl)
    | ((with_reducible apply DV.wP_env); (focus ((repeat (first | with_reducible apply DV.nt_z | with_reducible apply DV.nt_s | with_reducible apply DV.nt_app | with_reducible apply DV.nt_app0)); done)); exact rfl)
    | with_reducible apply DV.wU_ob
    | with_reducible apply DV.wU_env
    | ((with_reducible refine DV.wG_eqt ?_ ?_); focus first | with_reducible exact DV.tyD_s | with_reducible exact DV.tyD_l | with_reducible exact DV.tyS_l | with_reducible exact DV.tyD_kl)
    | ((with_reducible refine DV.wG_le ?_ ?_); exact DV.le_lit rfl)
    | with_reducible refine DV.wF_frl ?_
    | with_reducible refine DV.wF_fro ?_
    | with_reducible refine DV.wLO_its ?_
    | with_reducible refine DV.wKO_its ?_
    | with_reducible apply DV.wX_mk
    | with_reducible apply DV.wq_nil
    | with_reducible apply DV.wq_cons
    | with_reducible apply DV.tq_nm
    | with_reducible apply DV.tq_tp0
    | with_reducible apply DV.tq_tp
    | with_reducible apply DV.wSto_lst
    | with_reducible apply DV.wStoE_lst
    | with_reducible apply DV.pu_nil
    | with_reducible apply DV.pu_cons
    | with_reducible apply DV.pu_app
    | with_reducible apply DV.pu_var
    | with_reducible apply DV.nt_app
    | with_reducible apply DV.nt_app0
    | with_reducible apply DV.st_app
    | with_reducible apply DV.st_app0
    | with_reducible apply DV.wPar_mk
    | with_reducible apply DV.wPar3_mk
    | with_reducible apply DV.lk_z
    | ((with_reducible apply DV.lk_s); focus decide +kernel)
    | with_reducible apply DV.lkn_nil
    | ((with_reducible refine DV.lkn_cons ?_ ?_); focus decide +kernel)
    | with_reducible refine DV.wG_self ?_ ?_
    | with_reducible refine DV.wZ_d ?_
    | ((with_reducible refine DV.wQ_own1 ?_ ?_); exact rfl)
    | with_reducible refine DV.wQ_blt ?_
    | ((with_reducible refine DV.wW_own1 ?_ ?_); exact rfl)
    | with_reducible refine DV.wW_blt ?_
    | with_reducible refine DV.wZ_frl ?_
    | with_reducible refine DV.wZ_fro ?_
    | with_reducible refine DV.wZ_env ?_
    | with_reducible apply DV.wS_fro
    | with_reducible apply DV.ev_cons
    | with_reducible apply DV.ev_nil
    | with_reducible apply DV.rp_s
    | with_reducible apply DV.rp_z
    | with_reducible apply DV.evI_mk
    ))
end DV
namespace DV
open PySem PySem.Spec PyProof.Rows L2
/-- the fields of such an exception, the last stored first -/
def excV (code : Str) (fs : List Str) (ws : List V) : List (Str × V) := (fs.zip ws).reverse ++ [(("code" : Str), V.str code)]
def excF (code : Str) (fs : List Str) (ds : List D) : List (Str × D) := (fs.zip ds).reverse ++ [(("code" : Str), D.str code)]
/-- what its __init__ promises -/
def spX (C : Addr) (code : Str) (fs : List Str) : Sp := fun vs H Q E => vs.length = fs.length + 1 ∧ ∃ a ws, vs = .ref a :: ws ∧ H a = some (exo a C none) ∧
  ∀ d H', H d = none → d ≠ a → H' a = some (exo a C (some d)) → H' d = some (exd d (excV code fs ws)) → (∀ b, b ≠ a → b ≠ d → H' b = H b) → Q .non H'
/-- an exception's __init__ by its body -/
theorem fn_exc {P : Program} {wd : World} {K : PySem.W.Frag} {mg : Str → Option Value} {base : Heap} {x qual : Str} {params : Arguments} {body : List Stmt} {scope : Scope} {f : Addr} {fd : FuncData} {N : List Str} {C : Addr} {code : Str} {fs : List Str} {t : TS}
    (hF : FunD K x qual params body scope [] [] f fd) (hS : FnScope N N scope) (hN : N.length = fs.length + 1)
    (hb : ∀ (cdv : Value) (A : Around) (outer : List Env) (s : Shared) (H : Hp) (E : XK), PSs (cxOf (L2.CX P wd) P wd K mg base N qual scope f cdv A outer s H E) body t)
    (ht : ∀ (vs : List V) (H : Hp) (D : Ends) (E : XK), spX C code fs vs H D.rt E → (∀ σ H', D.rt .non H' → D.nx σ H') → t D (start N vs) H) : FnOk P wd K mg base (L2.CX P wd) 1 f fd N (spX C code fs) :=
  hF.ok (k := 0) hS (fun vs H Q E h => by rw [hN]; exact h.1) fun cdv A outer s H vs Q E hr h => ⟨t, hb cdv A outer s H E, ht vs H _ E h fun _ _ z => z⟩
def cRaise (c n : Nat) (mk : List D → List (Str × D)) (cs : M (List D)) : M Fl := fun ρ S => (cs ρ S).bind fun ds ρ S => if ds.length = n then .ex (.own c (mk ds)) ρ S else .bad
theorem repF_app {Γ : Gm} {R : List Addr} {F : Hp} : ∀ {a b : List (Str × D)} {c d : List (Str × V)}, RepF Γ R F a c → RepF Γ R F b d → RepF Γ R F (a ++ b) (c ++ d)
  | [], _, _, _, h, k => by rw [RepF] at h; subst h; exact k
  | (f, x) :: a, _, _, _, h, k => by
    rw [RepF] at h
    obtain ⟨y, ys, rfl, r, l⟩ := h
    rw [List.cons_append, List.cons_append, RepF]
    exact ⟨y, _, rfl, r, repF_app l k⟩
theorem repF_one {Γ : Gm} {R : List Addr} {F : Hp} {f : Str} {x : D} {y : V} (h : Rep Γ R F x y) : RepF Γ R F [(f, x)] [(f, y)] := by
  rw [RepF]; exact ⟨y, [], rfl, h, by rw [RepF]⟩
theorem repF_exc {Γ : Gm} {R : List Addr} {F : Hp} {code : Str} : ∀ {fs : List Str} {ds : List D} {vs : List V}, RepL Γ R F ds vs → RepF Γ R F (excF code fs ds) (excV code fs vs) := by iterate
  intro fs ds vs h
  refine repF_app ?_ (repF_one (by rw [Rep]))
  induction fs generalizing ds vs with
  | nil => rw [List.zip_nil_left, List.zip_nil_left, List.reverse_nil, RepF]; rfl
  | cons f fs ih =>
    cases ds with
    | nil => rw [RepL] at h; subst h; rw [List.zip_nil_right, List.zip_nil_right, List.reverse_nil, RepF]; rfl
    | cons d ds =>
      rw [RepL] at h
      obtain ⟨y, ys, rfl, r, l⟩ := h
      rw [List.zip_cons_cons, List.zip_cons_cons, List.reverse_cons, List.reverse_cons]
      exact repF_app (ih l) (repF_one r)
end DV
namespace DV
open PySem PySem.Spec PyProof.Rows L2
structure XT (Γ : Gm) (T : Nat → Str → Bool) : Prop where
  ok : ∀ c f, T c f = true → XfC Γ.K (Γ.cA c) ∧ PySem.W.findIn Γ.K (.ref (Γ.cA c)) f = some none
def xfAll (K : PySem.W.Frag) (nm : Nat → Str) (l : List (Nat × Str)) : Bool := l.all fun p => xfB K (He.ga K (nm p.1)) && He.eqO (PySem.W.findIn K (.ref (He.ga K (nm p.1))) p.2) (some none)
theorem xt_of {lm : Nat → LamI} {ce : List (Str × Addr)} {tb : Str → Addr} {K : PySem.W.Frag} {nm : Nat → Str} {l : List (Nat × Str)} (h : xfAll K nm l = true) : XT ⟨K, fun c => He.ga K (nm c), lm, ce, tb⟩ (fldT l) := by
  refine ⟨fun c f e => ?_⟩
  obtain ⟨p, hp, e⟩ := List.any_eq_true.mp e
  obtain ⟨e1, e2⟩ := He.ba e
  have e1 := beq_iff_eq.mp e1
  have e2 := of_decide_eq_true e2
  subst e1 e2
  obtain ⟨a1, a2⟩ := He.ba (List.all_eq_true.mp h p hp)
  exact ⟨xfB_ok a1, He.eqO_ok a2⟩
def xfR (T : Nat → Str → Bool) (f : Str) (r : Rv) (S : List Sl) : Option D := match r with
  | .d (.ob j) => (match S[j]? with
    | some (.exn c fs) => if T c f = true then fs.lookup f else none
    | _ => none)
  | _ => none
def cXf (T : Nat → Str → Bool) (f : Str) (co : M Rv) : M Rv := fun ρ S => (co ρ S).bind fun r ρ S => match xfR T f r S with
  | some d => .ok (.d d) ρ S false
  | none => .bad
section
variable {X : Cx} {Γ : Gm} {W : WX} {T : Nat → Str → Bool} {f : Str} {e : Expr} {co : M Rv} {pos : Pos} {w : Wd} {σ : L2.St} {ρ S : List Sl}
theorem Rel.exn {j c : Nat} {fs : List (Str × D)} {v : V} (h : Rel Γ w ρ S σ) (o : Rep Γ w.R w.F (.ob j) v) (e : S[j]? = some (.exn c fs)) :
    ∃ a oe dd vs gs, v = .ref a ∧ w.H a = some (.frz oe (.own a)) ∧ oe.cls = .ref (Γ.cA c) ∧ oe.dict = some dd ∧ oe.data = .fields vs ∧ w.H dd = some (.xd gs) ∧ RepF Γ w.R w.F fs gs := by iterate
  obtain ⟨a', A, B, b, h1, h2, h3, h4⟩ := h.own.sto_at e
  rw [Rep] at o
  obtain ⟨a, e5, e6⟩ := o
  rw [h1] at e5; cases e5
  obtain ⟨v', ev, ow⟩ := OwnO.of_ne h3 (fun z => by cases z)
  cases ev
  rw [Own] at ow
  obtain ⟨a, oe, dd, vs, gs, e1, e2, e3, e4, e5, e6', e7⟩ := ow
  cases e1
  subst e7
  exact ⟨a', oe, dd, vs, gs, e6, (h.good.cell (a', _) (by rw [h2]; simp)).1, e2, e3, e4, h.good.sub _ _ e5, e6'⟩
theorem pm_xf (hK : Γ.K = X.K) (xt : XT Γ T) (he : PE X e (tM Γ W co)) (hb : attributeBase e f X.env (eval e X.env) = eval e X.env) : PE X (.Attribute e f pos) (tM Γ W (cXf T f co)) := by iterate
  refine ⟨fun pins s σ H Q I t => ?_⟩
  obtain ⟨F, E, C, R, ρ, S, rel, ck⟩ := t
  have t' : tM Γ W co σ H fun x H1 => ∃ a oe dd vs gs cn v, x = .ref a ∧ H1 a = some (.frz oe (.own a)) ∧ oe.cls = .ref (Γ.cA cn) ∧ oe.dict = some dd ∧ oe.data = .fields vs ∧ H1 dd = some (.xd gs) ∧ gs.lookup f = some v ∧ XfC Γ.K (Γ.cA cn) ∧ PySem.W.findIn Γ.K (.ref (Γ.cA cn)) f = some none ∧ Q v H1 := by
    refine ⟨F, E, C, R, ρ, S, rel, CK.bind ck fun r ρ1 S1 w1 v1 x1 rel1 o1 ck1 => ?_⟩
    cases q : xfR T f r S1 with
    | none => simp only [q] at ck1; exact ck1.elim
    | some d =>
      simp only [q] at ck1
      unfold xfR at q
      split at q
      · rename_i j
        split at q
        · rename_i cn fs es
          split at q
          · rename_i ht
            obtain ⟨a, oe, dd, vs, gs, e1, e2, e3, e4, e5, e6, e7⟩ := rel1.exn o1 es
            obtain ⟨v, l1, l2⟩ := (e7.look f).1 d q
            obtain ⟨t1, t2⟩ := xt.ok cn f ht
            exact ⟨a, oe, dd, vs, gs, cn, v, e1, e2, e3, e4, e5, e6, l1, t1, t2, ck1 w1 v (.refl _) (fun _ => rfl) rel1 l2⟩
          · cases q
        · cases q
      · cases q
  refine attr_of hb (thn (he.run pins s σ H _ I t') fun u s1 hh => ?_)
  obtain ⟨x, H1, I1, rx, a, oe, dd, vs, gs, cn, v, ex, ea, ec, ed, edt, edd, l, T1, hno, q⟩ := hh
  subst ex
  obtain rfl : u = Value.ref a := rx
  have ha : s1.heap.get? a = some oe := (show ObjOk X.prog X.w H1 s1.heap a (.frz oe (.own a)) from I1.hok a _ ea).1
  have hx : ObjOk X.prog X.w H1 s1.heap dd (.xd gs) := I1.hok dd _ edd
  obtain ⟨mA, hns, hr⟩ := hx
  obtain ⟨od, ho, hl⟩ := lookIn_ns hns
  obtain ⟨u, hu, ru⟩ := RelO.some_of (v := v) (o := mA f) (by rw [← l]; exact hr f)
  have J : PySem.W.InstAt s1.heap a oe (Γ.cA cn) (some od) := ⟨ha, ec, by unfold PySem.W.notCls; rw [edt] <;> rfl, by rw [ed]; exact ho⟩
  rw [hK] at T1 hno
  exact HandSPX.exc_get I1.kIn J T1.ga T1.gg T1.exC (PySem.W.findObj_own T1.hdC hno rfl (by rw [hl, hu])) (handed_of ru) ⟨v, H1, I1.tok _, ru, q⟩
end
end DV
namespace DV
open PySem PySem.Spec PyProof.Rows L2
def cLam (k i : Nat) (q : Str) : M Rv := fun ρ S => match ρ[i]? with
  | some (.tab q') => if q' = q then .ok (.d (.fn k)) ρ S true else .bad
  | _ => .bad
end DV
namespace DV
open PySem PySem.Spec PyProof.Rows L2
end DV
namespace DV
open PySem PySem.Spec PyProof.Rows L2
/-- (the cell's name, its place in the store, its slot) -/
abbrev CelL := List (Str × Nat × Nat)
def exposeS : CelL → List Sl → List Sl → Option (List Sl)
  | [], _, S => some S
  | t :: J, ρ, S => match ρ[t.2.2]?, S[t.2.1]? with
    | some (.val d), some (.rsv y) => if y = t.1 then exposeS J ρ (S.set t.2.1 (.cel t.1 d)) else none
    | _, _ => none
def hideS : CelL → List Sl → Option (List Sl)
  | [], S => some S
  | t :: J, S => match S[t.2.1]? with
    | some (.cel y _) => if y = t.1 then hideS J (S.set t.2.1 (.rsv t.1)) else none
    | _ => none
def restoreS : CelL → List Sl → List Sl → Option (List Sl)
  | [], _, S => some S
  | t :: J, S0, S => match S0[t.2.1]?, S[t.2.1]? with
    | some (.cel _ d), some (.rsv y) => if y = t.1 then restoreS J S0 (S.set t.2.1 (.cel t.1 d)) else none
    | _, _ => none
def cCallE (J : CelL) (m : List D → List Sl → Res Rv) (n : Nat) (gD : List D → List D → List D) (cs : M (List D)) : M Rv := fun ρ S => (cs ρ S).bind fun ds ρ S =>
  if ds.length = n then (match exposeS J ρ S with
    | some S1 => (match m (gD ds []) S1 with
      | .ok r _ S' _ => (match hideS J S' with
        | some S2 => .ok r ρ S2 false
        | none => .bad)
      | _ => .bad)
    | none => .bad) else .bad
end DV
namespace DV
open PySem PySem.Spec PyProof.Rows L2
def rdS : CelL → List Sl → Option (List Sl)
  | [], _ => some []
  | t :: J, S => match S[t.2.1]? with
    | some (.cel _ d) => (rdS J S).map (.val d :: ·)
    | _ => none
/-- some are looked at: what was hidden of them comes back -/
structure MixK (H H2 H3 H4 : Hp) (h : Heap) (fs : List Addr) (A : Addr → Prop) : Prop where
  at_ : ∀ b, A b → ∃ o, H b = some (.frz o (.own b)) ∧ h.get? b = some o ∧ b ∉ fs
  n2 : ∀ b, A b → H2 b = none
  s2 : ∀ b, ¬ A b → H2 b = H b
  n4 : ∀ b, A b → H4 b = H b
  s4 : ∀ b, ¬ A b → H4 b = H3 b
section
variable {P : Program} {wd : World} {H H2 H3 H4 : Hp} {h h' : Heap} {fs : List Addr} {A : Addr → Prop}
theorem MixK.nA (m : MixK H H2 H3 H4 h fs A) {b : Addr} (n : H b = none) : ¬ A b := fun z => by
  obtain ⟨o, e, _⟩ := m.at_ b z
  rw [n] at e; cases e
theorem MixK.hok (m : MixK H H2 H3 H4 h fs A) {B : Heap} (hk : ∀ b o, A b → h.get? b = some o → B.get? b = some o) (hok : HOk P wd H3 B) (n3 : ∀ b, A b → H3 b = none) : HOk P wd H4 B := fun b o e => by
  by_cases z : A b
  · obtain ⟨o', e1, e2, _⟩ := m.at_ b z
    rw [m.n4 b z, e1] at e
    cases e
    exact ⟨hk b o' z e2, ⟨_, hk b o' z e2⟩⟩
  · rw [m.s4 b z] at e
    have nz : ∀ c u, H3 c = some u → ¬ A c := fun c u q y => by rw [n3 c y] at q; cases q
    exact (hok b o e).stay (fun _ _ _ q => q) (fun c q => by rw [m.s4 c (nz c _ q)]; exact q) fun c xs q => by rw [m.s4 c (nz c _ q)]; exact q
theorem MixK.un (m : MixK H H2 H3 H4 h fs A) (un : Un fs [] H2 H3 h h') : Un fs [] H H4 h h' := by iterate
  refine ⟨fun b o e n hb hx => un.keep b o e (by rw [m.s2 b (m.nA n)]; exact n) hb hx, fun b o e n hb hx => un.slot b o e (by rw [m.s2 b (m.nA n)]; exact n) hb hx, fun b o e n hx => by rw [m.s4 b (m.nA n)]; exact un.free b o e (by rw [m.s2 b (m.nA n)]; exact n) hx, un.there, fun b xs e => ?_, fun b o u e => ?_, fun b ps e => ?_⟩
  · have z : ¬ A b := fun y => by obtain ⟨o, e1, _⟩ := m.at_ b y; rw [e] at e1; cases e1
    rw [m.s4 b z]; exact un.tups b xs (by rw [m.s2 b z]; exact e)
  · by_cases z : A b
    · rw [m.n4 b z]; exact e
    · rw [m.s4 b z]; exact un.frzs b o u (by rw [m.s2 b z]; exact e)
  · have z : ¬ A b := fun y => by obtain ⟨o, e1, _⟩ := m.at_ b y; rw [e] at e1; cases e1
    rw [m.s4 b z]; exact un.tbls b ps (by rw [m.s2 b z]; exact e)
end
end DV
namespace DV
open PySem PySem.Spec PyProof.Rows L2
end DV
namespace DV
open PySem PySem.Spec PyProof.Rows L2
abbrev lawT (K : PySem.W.Frag) : Addr × Addr := He.cT K ("law", none)
end DV
namespace DV
open PySem PySem.Spec PyProof.Rows L2
def noE : Expr := .Name "" ⟨0, 0, 0, 0⟩
def noL : LamI := ⟨"", ⟨[], [], none, [], [], none, []⟩, noE, ⟨.function, [], false, false, []⟩⟩
theorem passes_false {P : Program} {w : World} {X : Cx} : Passes (L2.CX P w) X (fun _ _ _ => False) := by
  rintro _ _ _ _ _ _ _ ⟨_, _, _, _, _, _, _, _, _, _, _, _, h⟩
  exact h.elim
end DV
namespace DV
open PySem PySem.Spec PyProof.Rows L2
local macro_rules
  | `(tactic| simp_arith) => `(tactic| repeat (first
    | ((with_reducible refine DV.gd_wp ?_); first
      | ((with_reducible apply DV.wp_name); (focus ((repeat (first | with_reducible apply DV.nt_z | with_reducible apply DV.nt_s | with_reducible apply DV.nt_app | with_reducible apply DV.nt_app0)); done)))
      | with_reducible refine DV.wp_C ?_
      | with_reducible refine DV.wp_consD ?_
      | with_reducible refine DV.wp_nilD ?_
      | with_reducible refine DV.wp_consR ?_
      | with_reducible refine DV.wp_nilR ?_
      | with_reducible refine DV.wp_bin ?_
      | with_reducible refine DV.wp_seq ?_
      | with_reducible refine DV.wp_set ?_
      | with_reducible refine DV.wp_ifS ?_
      | with_reducible refine DV.wp_tst ?_
      | with_reducible refine DV.wp_blt ?_
      | with_reducible refine DV.wp_call ?_
      | with_reducible refine DV.wp_ret ?_
      | with_reducible refine DV.wp_nx ?_
      | with_reducible refine DV.wp_andB ?_
      | with_reducible refine DV.wp_orB ?_
      | with_reducible refine DV.wp_notB ?_
      | with_reducible refine DV.wp_tru ?_
      | with_reducible refine DV.wp_if ?_
      | with_reducible refine DV.wp_and ?_
      | with_reducible refine DV.wp_or ?_
      | with_reducible refine DV.wp_not ?_
      | with_reducible refine DV.wp_put ?_
      | with_reducible refine DV.wp_mm ?_
      | with_reducible refine DV.wp_lst ?_
      | with_reducible refine DV.wp_tup ?_
      | with_reducible refine DV.wp_chain ?_
      | with_reducible refine DV.wp_isi ?_
      | with_reducible refine DV.wp_for ?_
      | with_reducible refine DV.wp_forO ?_
      | with_reducible refine DV.wp_its ?_
      | with_reducible refine DV.wp_itsO ?_
      | with_reducible refine DV.wp_enumO ?_
      | with_reducible refine DV.wp_enumA ?_
      | with_reducible refine DV.wp_rng1 ?_
      | with_reducible refine DV.wp_rng2 ?_
      | with_reducible refine DV.wp_zip ?_
      | with_reducible refine DV.wp_lc ?_
      | with_reducible refine DV.wp_lcO ?_
      | with_reducible refine DV.wp_yes ?_
      | with_reducible refine DV.wp_mt ?_
      | with_reducible refine DV.wp_sl ?_
      | with_reducible refine DV.wp_noP ?_
      | with_reducible refine DV.wp_part ?_
      | with_reducible refine DV.wp_neg ?_
      | with_reducible refine DV.wp_drop ?_
      | with_reducible refine DV.wp_retN ?_
      | with_reducible refine DV.wp_sto ?_
      | with_reducible refine DV.wp_stoE ?_
      | with_reducible refine DV.wp_par ?_
      | with_reducible refine DV.wp_par3 ?_
      | with_reducible refine DV.wp_setT ?_
      | with_reducible refine DV.wp_fld ?_
      | with_reducible refine DV.wp_fst ?_
      | with_reducible refine DV.wp_meth ?_
      | with_reducible refine DV.wp_prop ?_
      | with_reducible refine DV.wp_kon ?_
      | with_reducible refine DV.wp_fmt ?_
      | with_reducible refine DV.wp_js ?_
      | with_reducible refine DV.wp_jsN ?_
      | with_reducible refine DV.wp_jsC ?_
      | with_reducible refine DV.wp_op2 ?_
      | with_reducible refine DV.wp_op1 ?_
      | with_reducible refine DV.wp_lenSet ?_
      | with_reducible refine DV.wp_setO ?_
      | ((with_reducible apply DV.wp_nameO); (focus ((repeat (first | with_reducible apply DV.nt_z | with_reducible apply DV.nt_s | with_reducible apply DV.nt_app | with_reducible apply DV.nt_app0)); done)); exact rfl)
      | ((with_reducible apply DV.wp_nameI); (focus ((repeat (first | with_reducible apply DV.nt_z | with_reducible apply DV.nt_s | with_reducible apply DV.nt_app | with_reducible apply DV.nt_app0)); done))))
    | ((with_reducible refine DV.gd_wO ?_); first
      | with_reducible refine DV.wO_add_int ?_
      | with_reducible refine DV.wO_sub_int ?_
      | ((with_reducible refine DV.wO_mul_int (Or.inr (Or.inl ?_)) ?_); decide)
      | ((with_reducible refine DV.wO_mul_int (Or.inl ?_) ?_); decide)
      | ((with_reducible refine DV.wO_mod_int ?_ ?_); decide)
      | ((with_reducible refine DV.wO_fdiv_int ?_ ?_ ?_); decide; decide)
      | with_reducible refine DV.wO_lt_int ?_
      | with_reducible refine DV.wO_le_int ?_
      | with_reducible refine DV.wO_gt_int ?_
      | with_reducible refine DV.wO_ge_int ?_
      | with_reducible refine DV.wO_eq_int ?_
      | with_reducible refine DV.wO_ne_int ?_
      | with_reducible refine DV.wO_eq_str ?_
      | with_reducible refine DV.wO_ne_str ?_
      | with_reducible refine DV.wO_eq_bl ?_
      | with_reducible refine DV.wO_ne_bl ?_
      | with_reducible refine DV.wO_in_str ?_
      | with_reducible refine DV.wO_get_lst DV.atI_0 ?_
      | with_reducible refine DV.wO_get_lst DV.atI_1 ?_
      | with_reducible refine DV.wO_get_lst DV.atI_2 ?_
      | with_reducible refine DV.wO_get_lst DV.atI_3 ?_
      | with_reducible refine DV.wO_get_lst DV.atI_4 ?_
      | with_reducible refine DV.wO_get_tup DV.atI_0 ?_
      | with_reducible refine DV.wO_get_tup DV.atI_1 ?_
      | with_reducible refine DV.wO_get_tup DV.atI_2 ?_
      | with_reducible refine DV.wO_get_tup DV.atI_3 ?_
      | with_reducible refine DV.wO_tru_bl ?_
      | with_reducible refine DV.wO_len_lst ?_
      | with_reducible refine DV.wO_len_tup ?_
      | with_reducible refine DV.wO_len_kl ?_
      | with_reducible refine DV.wO_len_kt ?_
      | with_reducible refine DV.wO_gint ?_
      | with_reducible refine DV.wO_gabs ?_
      | with_reducible refine DV.wO_list_lst ?_
      | with_reducible refine DV.wO_list_kl ?_
      | with_reducible refine DV.wO_list_tup ?_
      | with_reducible refine DV.wO_list_kt ?_
      | ((with_reducible refine DV.wO_list_str ?_ ?_); focus first | assumption | exact DV.le_line (by decide +kernel))
      | ((with_reducible refine DV.wO_len_str ?_ ?_); focus first | assumption | exact DV.le_line (by decide +kernel))
      | ((with_reducible refine DV.wO_tru_str ?_ ?_); focus first | assumption | exact DV.le_line (by decide +kernel))
      | ((with_reducible refine DV.wO_cut_str ?_ ?_); focus first | assumption | exact DV.le_line (by decide +kernel))
      | with_reducible refine DV.wO_tup_lst ?_
      | with_reducible refine DV.wO_tup_tup ?_
      | ((with_reducible refine DV.wO_isi_t ?_ ?_); exact rfl)
      | ((with_reducible refine DV.wO_isi_f ?_ ?_); exact rfl)
      | ((with_reducible refine DV.wO_is_t ?_ ?_); exact rfl)
      | ((with_reducible refine DV.wO_is_f ?_ ?_); exact rfl)
      | ((with_reducible refine DV.wO_rng1 ?_ ?_); decide)
      | ((with_reducible refine DV.wO_rng2 ?_ ?_); decide)
      | with_reducible refine DV.wO_zip_ll ?_
      | with_reducible refine DV.wO_zip_tt ?_
      | with_reducible refine DV.wO_zip_tk ?_
      | with_reducible refine DV.wO_zip_kt ?_
      | with_reducible refine DV.wO_its_lst ?_
      | with_reducible refine DV.wO_its_kl ?_
      | with_reducible refine DV.wO_its_tup ?_
      | with_reducible refine DV.wO_its_kt ?_
      | with_reducible refine DV.wO_its_str ?_
      | with_reducible refine DV.wO_src_lst ?_
      | with_reducible refine DV.wO_src_kl ?_
      | with_reducible refine DV.wO_src_tup ?_
      | with_reducible refine DV.wO_src_kt ?_
      | with_reducible refine DV.wO_src_str ?_
      | ((with_reducible apply DV.wO_src_ob); (focus ((repeat (first | with_reducible apply DV.nt_z | with_reducible apply DV.nt_s | with_reducible apply DV.nt_app | with_reducible apply DV.nt_app0)); done)))
      | with_reducible refine DV.wO_esrc_lst ?_
      | with_reducible refine DV.wO_esrc_kl ?_
      | with_reducible refine DV.wO_esrc_tup ?_
      | with_reducible refine DV.wO_esrc_kt ?_
      | with_reducible refine DV.wO_esrc_str ?_
      | ((with_reducible apply DV.wO_esrc_ob); (focus ((repeat (first | with_reducible apply DV.nt_z | with_reducible apply DV.nt_s | with_reducible apply DV.nt_app | with_reducible apply DV.nt_app0)); done)))
      | with_reducible refine DV.wO_part ?_
      | with_reducible refine DV.wO_cut_lst ?_
      | with_reducible refine DV.wO_cut_kl ?_
      | with_reducible refine DV.wO_asInt ?_
      | with_reducible refine DV.wO_items_lst ?_
      | ((with_reducible apply DV.wO_fld_ins); focus decide +kernel))
    | ((with_reducible refine DV.gd_wC ?_); first
      | with_reducible refine DV.wC_int ?_
      | with_reducible refine DV.wC_str ?_
      | with_reducible refine DV.wC_lst ?_
      | with_reducible refine DV.wC_tup ?_
      | ((with_reducible apply DV.wC_ob); (focus ((repeat (first | with_reducible apply DV.nt_z | with_reducible apply DV.nt_s | with_reducible apply DV.nt_app | with_reducible apply DV.nt_app0)); done)))
      | ((with_reducible apply DV.wC_env); (focus ((repeat (first | with_reducible apply DV.nt_z | with_reducible apply DV.nt_s | with_reducible apply DV.nt_app | with_reducible apply DV.nt_app0)); done)))
      | with_reducible refine DV.wC_frl ?_
      | with_reducible refine DV.wC_bl ?_
      | with_reducible refine DV.wC_non ?_
      | with_reducible refine DV.wC_kl ?_
      | with_reducible refine DV.wC_kt ?_
      | with_reducible refine DV.wC_ty ?_
      | with_reducible refine DV.wC_cl ?_
      | with_reducible refine DV.wC_ins ?_)
    | with_reducible apply DV.nt_z
    | with_reducible apply DV.nt_s
    | with_reducible apply DV.st_z
    | with_reducible apply DV.st_s
    | with_reducible refine DV.wF_d ?_
    | with_reducible refine DV.wCs_cons ?_
    | with_reducible refine DV.wCs_nil ?_
    | with_reducible refine DV.wN_nx ?_
    | with_reducible apply DV.wS_d
    | with_reducible apply DV.wS_frfl
    | with_reducible apply DV.wS_frt
    | with_reducible refine DV.wB_mk ?_
    | with_reducible refine DV.wI_t ?_
    | with_reducible refine DV.wI_f ?_
    | with_reducible refine DV.wI_not ?_
    | with_reducible refine DV.wI_tt ?_
    | with_reducible refine DV.wI_ff ?_
    | with_reducible refine DV.wI_tf ?_
    | with_reducible refine DV.wI_ft ?_
    | ((with_reducible refine DV.wI_dpos ?_ ?_); (focus first | assumption | omega | exact of_decide_eq_true rfl))
    | ((with_reducible refine DV.wI_dneg ?_ ?_); (focus first | assumption | omega | exact of_decide_eq_false rfl))
    | ((with_reducible refine DV.wG_len ?_ ?_ ?_); exact rfl; exact rfl)
    | with_reducible apply DV.wArg_mk
    | with_reducible apply DV.aq_pick
    | with_reducible apply DV.aq_aa
    | with_reducible apply DV.aq_acons
    | with_reducible apply DV.aq_anil
    | with_reducible apply DV.aq_cons
    | with_reducible apply DV.aq_nil
    | with_reducible apply DV.pn_cons
    | with_reducible apply DV.pn_nil
    | with_reducible apply DV.nd_z
    | with_reducible apply DV.nd_s
    | with_reducible refine DV.wV_d ?_
    | with_reducible refine DV.wV_fr ?_
    | ((with_reducible apply DV.wV_env); (focus ((repeat (first | with_reducible apply DV.nt_z | with_reducible apply DV.nt_s | with_reducible apply DV.nt_app | with_reducible apply DV.nt_app0)); done)); (focus exact rfl))
    | with_reducible refine DV.wEnd_rt ?_
    | with_reducible refine DV.wEnd_nx ?_
    | with_reducible refine DV.wN_rt ?_
    | with_reducible refine DV.wN_bk ?_
    | with_reducible refine DV.wN_ct ?_
    | with_reducible refine DV.wJ_nx ?_
    | with_reducible refine DV.wJ_rt ?_
    | with_reducible refine DV.wJ_bk ?_
    | with_reducible refine DV.wJ_ct ?_
    | ((with_reducible apply DV.wP_ob); (focus ((repeat (first | with_reducible apply DV.nt_z | with_reducible apply DV.nt_s | with_reducible apply DV.nt_app | with_reducible apply DV.nt_app0)); done)); exact rfl)
    | ((with_reducible apply DV.wP_env); (focus ((repeat (first | with_reducible apply DV.nt_z | with_reducible apply DV.nt_s | with_reducible apply DV.nt_app | with_reducible apply DV.nt_app0)); done)); exact rfl)
    | with_reducible apply DV.wU_ob
    | with_reducible apply DV.wU_env
    | ((with_reducible refine DV.wG_eqt ?_ ?_); focus first | with_reducible exact DV.tyD_s | with_reducible exact DV.tyD_l | with_reducible exact DV.tyS_l | with_reducible exact DV.tyD_kl)
    | ((with_reducible refine DV.wG_le ?_ ?_); exact DV.le_lit rfl)
    | with_reducible refine DV.wF_frl ?_
    | with_reducible refine DV.wF_fro ?_
    | with_reducible refine DV.wLO_its ?_
    | with_reducible refine DV.wKO_its ?_
    | with_reducible apply DV.wX_mk
    | with_reducible apply DV.wq_nil
    | with_reducible apply DV.wq_cons
    | with_reducible apply DV.tq_nm
    | with_reducible apply DV.tq_tp0
    | with_reducible apply DV.tq_tp
    | with_reducible apply DV.wSto_lst
    | with_reducible apply DV.wStoE_lst
    | with_reducible apply DV.pu_nil
    | with_reducible apply DV.pu_cons
    | with_reducible apply DV.pu_app
    | with_reducible apply DV.pu_var
    | with_reducible apply DV.nt_app
    | with_reducible apply DV.nt_app0
    | with_reducible apply DV.st_app
    | with_reducible apply DV.st_app0
    | with_reducible apply DV.wPar_mk
    | with_reducible apply DV.wPar3_mk
    | with_reducible apply DV.lk_z
    | ((with_reducible apply DV.lk_s); focus decide +kernel)
    | with_reducible apply DV.lkn_nil
    | ((with_reducible refine DV.lkn_cons ?_ ?_); focus decide +kernel)
    | with_reducible refine DV.wG_self ?_ ?_
    | with_reducible refine DV.wZ_d ?_
    | ((with_reducible refine DV.wQ_own1 ?_ ?_); exact rfl)
    | with_reducible refine DV.wQ_blt ?_
    | ((with_reducible refine DV.wW_own1 ?_ ?_); exact rfl)
    | with_reducible refine DV.wW_blt ?_
    | with_reducible refine DV.wZ_frl ?_
    | with_reducible refine DV.wZ_fro ?_
    | with_reducible refine DV.wZ_env ?_
    | with_reducible apply DV.wS_fro
    | with_reducible apply DV.ev_cons
    | with_reducible apply DV.ev_nil
    | with_reducible apply DV.rp_s
    | with_reducible apply DV.rp_z
    | with_reducible apply DV.evI_mk
    ))
section
variable {α : Type} {ρ S S2 S4 : List Sl} {QR : Rv → List Sl → List Sl → Prop} {QF : Fl → List Sl → List Sl → Prop} {QL : List D → List Sl → List Sl → Prop} {E : XQ} {Q : Rv → List Sl → Prop} {E1 : Exn → List Sl → Prop} {j k c : Nat} {fs : List (Str × D)} {T : Nat → Str → Bool} {f code : Str} {d dc : D}
theorem wp_raise {n : Nat} {mk : List D → List (Str × D)} {cs : M (List D)} (h : wp cs ρ S (fun ds ρ S => wG (ds.length = n ∧ 0 = 0) (E (.own c (mk ds)) ρ S)) E) : wp (cRaise c n mk cs) ρ S QF E :=
  wr_bind (wr_cons h (fun _ _ _ ⟨e, h⟩ => by rw [if_pos e.1]; exact h) fun _ _ _ h => h)
theorem wp_lam {i : Nat} {q : Str} (e : nt ρ i (.tab q)) (h : QR (.d (.fn k)) ρ S) : wp (cLam k i q) ρ S QR E := by
  have e : ρ[i]? = _ := e
  simp only [wp, cLam, e, if_true]
  exact h
theorem ne_d {x : D} : ∀ i, Rv.d x ≠ .env i := fun _ z => nomatch z
theorem ne_fr {x : Sl} : ∀ i, Rv.fr x ≠ .env i := fun _ z => nomatch z
end
end DV
namespace DV
open PySem PySem.Spec PyProof.Rows L2
local macro_rules
  | `(tactic| simp_arith) => `(tactic| repeat (first
    | ((with_reducible refine DV.gd_wp ?_); first
      | ((with_reducible apply DV.wp_name); (focus ((repeat (first | with_reducible apply DV.nt_z | with_reducible apply DV.nt_s | with_reducible apply DV.nt_app | with_reducible apply DV.nt_app0)); done)))
      | with_reducible refine DV.wp_C ?_
      | with_reducible refine DV.wp_consD ?_
      | with_reducible refine DV.wp_nilD ?_
      | with_reducible refine DV.wp_consR ?_
      | with_reducible refine DV.wp_nilR ?_
      | with_reducible refine DV.wp_bin ?_
      | with_reducible refine DV.wp_seq ?_
      | with_reducible refine DV.wp_set ?_
      | with_reducible refine DV.wp_ifS ?_
      | with_reducible refine DV.wp_tst ?_
      | with_reducible refine DV.wp_blt ?_
      | with_reducible refine DV.wp_call ?_
      | with_reducible refine DV.wp_ret ?_
      | with_reducible refine DV.wp_nx ?_
      | with_reducible refine DV.wp_andB ?_
      | with_reducible refine DV.wp_orB ?_
      | with_reducible refine DV.wp_notB ?_
      | with_reducible refine DV.wp_tru ?_
      | with_reducible refine DV.wp_if ?_
      | with_reducible refine DV.wp_and ?_
      | with_reducible refine DV.wp_or ?_
      | with_reducible refine DV.wp_not ?_
      | with_reducible refine DV.wp_put ?_
      | with_reducible refine DV.wp_mm ?_
      | with_reducible refine DV.wp_lst ?_
      | with_reducible refine DV.wp_tup ?_
      | with_reducible refine DV.wp_chain ?_
      | with_reducible refine DV.wp_isi ?_
      | with_reducible refine DV.wp_for ?_
      | with_reducible refine DV.wp_forO ?_
      | with_reducible refine DV.wp_its ?_
      | with_reducible refine DV.wp_itsO ?_
      | with_reducible refine DV.wp_enumO ?_
      | with_reducible refine DV.wp_enumA ?_
      | with_reducible refine DV.wp_rng1 ?_
      | with_reducible refine DV.wp_rng2 ?_
      | with_reducible refine DV.wp_zip ?_
      | with_reducible refine DV.wp_lc ?_
      | with_reducible refine DV.wp_lcO ?_
      | with_reducible refine DV.wp_yes ?_
      | with_reducible refine DV.wp_mt ?_
      | with_reducible refine DV.wp_sl ?_
      | with_reducible refine DV.wp_noP ?_
      | with_reducible refine DV.wp_part ?_
      | with_reducible refine DV.wp_neg ?_
      | with_reducible refine DV.wp_drop ?_
      | with_reducible refine DV.wp_retN ?_
      | with_reducible refine DV.wp_sto ?_
      | with_reducible refine DV.wp_stoE ?_
      | with_reducible refine DV.wp_par ?_
      | with_reducible refine DV.wp_par3 ?_
      | with_reducible refine DV.wp_setT ?_
      | with_reducible refine DV.wp_fld ?_
      | with_reducible refine DV.wp_fst ?_
      | with_reducible refine DV.wp_meth ?_
      | with_reducible refine DV.wp_prop ?_
      | with_reducible refine DV.wp_kon ?_
      | with_reducible refine DV.wp_fmt ?_
      | with_reducible refine DV.wp_js ?_
      | with_reducible refine DV.wp_jsN ?_
      | with_reducible refine DV.wp_jsC ?_
      | with_reducible refine DV.wp_op2 ?_
      | with_reducible refine DV.wp_op1 ?_
      | with_reducible refine DV.wp_lenSet ?_
      | with_reducible refine DV.wp_setO ?_
      | ((with_reducible apply DV.wp_nameO); (focus ((repeat (first | with_reducible apply DV.nt_z | with_reducible apply DV.nt_s | with_reducible apply DV.nt_app | with_reducible apply DV.nt_app0)); done)); exact rfl)
      | ((with_reducible apply DV.wp_nameI); (focus ((repeat (first | with_reducible apply DV.nt_z | with_reducible apply DV.nt_s | with_reducible apply DV.nt_app | with_reducible apply DV.nt_app0)); done))))
    | ((with_reducible refine DV.gd_wO ?_); first
      | with_reducible refine DV.wO_add_int ?_
      | with_reducible refine DV.wO_sub_int ?_
      | ((with_reducible refine DV.wO_mul_int (Or.inr (Or.inl ?_)) ?_); decide)
      | ((with_reducible refine DV.wO_mul_int (Or.inl ?_) ?_); decide)
      | ((with_reducible refine DV.wO_mod_int ?_ ?_); decide)
      | ((with_reducible refine DV.wO_fdiv_int ?_ ?_ ?_); decide; decide)
      | with_reducible refine DV.wO_lt_int ?_
      | with_reducible refine DV.wO_le_int ?_
      | with_reducible refine DV.wO_gt_int ?_
      | with_reducible refine DV.wO_ge_int ?_
      | with_reducible refine DV.wO_eq_int ?_
      | with_reducible refine DV.wO_ne_int ?_
      | with_reducible refine DV.wO_eq_str ?_
      | with_reducible refine DV.wO_ne_str ?_
      | with_reducible refine DV.wO_eq_bl ?_
      | with_reducible refine DV.wO_ne_bl ?_
      | with_reducible refine DV.wO_in_str ?_
      | with_reducible refine DV.wO_get_lst DV.atI_0 ?_
      | with_reducible refine DV.wO_get_lst DV.atI_1 ?_
      | with_reducible refine DV.wO_get_lst DV.atI_2 ?_
      | with_reducible refine DV.wO_get_lst DV.atI_3 ?_
      | with_reducible refine DV.wO_get_lst DV.atI_4 ?_
      | with_reducible refine DV.wO_get_tup DV.atI_0 ?_
      | with_reducible refine DV.wO_get_tup DV.atI_1 ?_
      | with_reducible refine DV.wO_get_tup DV.atI_2 ?_
      | with_reducible refine DV.wO_get_tup DV.atI_3 ?_
      | with_reducible refine DV.wO_tru_bl ?_
      | with_reducible refine DV.wO_len_lst ?_
      | with_reducible refine DV.wO_len_tup ?_
      | with_reducible refine DV.wO_len_kl ?_
      | with_reducible refine DV.wO_len_kt ?_
      | with_reducible refine DV.wO_gint ?_
      | with_reducible refine DV.wO_gabs ?_
      | with_reducible refine DV.wO_list_lst ?_
      | with_reducible refine DV.wO_list_kl ?_
      | with_reducible refine DV.wO_list_tup ?_
      | with_reducible refine DV.wO_list_kt ?_
      | ((with_reducible refine DV.wO_list_str ?_ ?_); focus first | assumption | exact DV.le_line (by decide +kernel))
      | ((with_reducible refine DV.wO_len_str ?_ ?_); focus first | assumption | exact DV.le_line (by decide +kernel))
      | ((with_reducible refine DV.wO_tru_str ?_ ?_); focus first | assumption | exact DV.le_line (by decide +kernel))
      | ((with_reducible refine DV.wO_cut_str ?_ ?_); focus first | assumption | exact DV.le_line (by decide +kernel))
      | with_reducible refine DV.wO_tup_lst ?_
      | with_reducible refine DV.wO_tup_tup ?_
      | ((with_reducible refine DV.wO_isi_t ?_ ?_); exact rfl)
      | ((with_reducible refine DV.wO_isi_f ?_ ?_); exact rfl)
      | ((with_reducible refine DV.wO_is_t ?_ ?_); exact rfl)
      | ((with_reducible refine DV.wO_is_f ?_ ?_); exact rfl)
      | ((with_reducible refine DV.wO_rng1 ?_ ?_); decide)
      | ((with_reducible refine DV.wO_rng2 ?_ ?_); decide)
      | with_reducible refine DV.wO_zip_ll ?_
      | with_reducible refine DV.wO_zip_tt ?_
      | with_reducible refine DV.wO_zip_tk ?_
      | with_reducible refine DV.wO_zip_kt ?_
      | with_reducible refine DV.wO_its_lst ?_
      | with_reducible refine DV.wO_its_kl ?_
      | with_reducible refine DV.wO_its_tup ?_
      | with_reducible refine DV.wO_its_kt ?_
      | with_reducible refine DV.wO_its_str ?_
      | with_reducible refine DV.wO_src_lst ?_
      | with_reducible refine DV.wO_src_kl ?_
      | with_reducible refine DV.wO_src_tup ?_
      | with_reducible refine DV.wO_src_kt ?_
      | with_reducible refine DV.wO_src_str ?_
      | ((with_reducible apply DV.wO_src_ob); (focus ((repeat (first | with_reducible apply DV.nt_z | with_reducible apply DV.nt_s | with_reducible apply DV.nt_app | with_reducible apply DV.nt_app0)); done)))
      | with_reducible refine DV.wO_esrc_lst ?_
      | with_reducible refine DV.wO_esrc_kl ?_
      | with_reducible refine DV.wO_esrc_tup ?_
      | with_reducible refine DV.wO_esrc_kt ?_
      | with_reducible refine DV.wO_esrc_str ?_
      | ((with_reducible apply DV.wO_esrc_ob); (focus ((repeat (first | with_reducible apply DV.nt_z | with_reducible apply DV.nt_s | with_reducible apply DV.nt_app | with_reducible apply DV.nt_app0)); done)))
      | with_reducible refine DV.wO_part ?_
      | with_reducible refine DV.wO_cut_lst ?_
      | with_reducible refine DV.wO_cut_kl ?_
      | with_reducible refine DV.wO_asInt ?_
      | with_reducible refine DV.wO_items_lst ?_
      | ((with_reducible apply DV.wO_fld_ins); focus decide +kernel))
    | ((with_reducible refine DV.gd_wC ?_); first
      | with_reducible refine DV.wC_int ?_
      | with_reducible refine DV.wC_str ?_
      | with_reducible refine DV.wC_lst ?_
      | with_reducible refine DV.wC_tup ?_
      | ((with_reducible apply DV.wC_ob); (focus ((repeat (first | with_reducible apply DV.nt_z | with_reducible apply DV.nt_s | with_reducible apply DV.nt_app | with_reducible apply DV.nt_app0)); done)))
      | ((with_reducible apply DV.wC_env); (focus ((repeat (first | with_reducible apply DV.nt_z | with_reducible apply DV.nt_s | with_reducible apply DV.nt_app | with_reducible apply DV.nt_app0)); done)))
      | with_reducible refine DV.wC_frl ?_
      | with_reducible refine DV.wC_bl ?_
      | with_reducible refine DV.wC_non ?_
      | with_reducible refine DV.wC_kl ?_
      | with_reducible refine DV.wC_kt ?_
      | with_reducible refine DV.wC_ty ?_
      | with_reducible refine DV.wC_cl ?_
      | with_reducible refine DV.wC_ins ?_)
    | with_reducible apply DV.nt_z
    | with_reducible apply DV.nt_s
    | with_reducible apply DV.st_z
    | with_reducible apply DV.st_s
    | with_reducible refine DV.wF_d ?_
    | with_reducible refine DV.wCs_cons ?_
    | with_reducible refine DV.wCs_nil ?_
    | with_reducible refine DV.wN_nx ?_
    | with_reducible apply DV.wS_d
    | with_reducible apply DV.wS_frfl
    | with_reducible apply DV.wS_frt
    | with_reducible refine DV.wB_mk ?_
    | with_reducible refine DV.wI_t ?_
    | with_reducible refine DV.wI_f ?_
    | with_reducible refine DV.wI_not ?_
    | with_reducible refine DV.wI_tt ?_
    | with_reducible refine DV.wI_ff ?_
    | with_reducible refine DV.wI_tf ?_
    | with_reducible refine DV.wI_ft ?_
    | ((with_reducible refine DV.wI_dpos ?_ ?_); (focus first | assumption | omega | exact of_decide_eq_true rfl))
    | ((with_reducible refine DV.wI_dneg ?_ ?_); (focus first | assumption | omega | exact of_decide_eq_false rfl))
    | ((with_reducible refine DV.wG_len ?_ ?_ ?_); exact rfl; exact rfl)
    | with_reducible apply DV.wArg_mk
    | with_reducible apply DV.aq_pick
    | with_reducible apply DV.aq_aa
    | with_reducible apply DV.aq_acons
    | with_reducible apply DV.aq_anil
    | with_reducible apply DV.aq_cons
    | with_reducible apply DV.aq_nil
    | with_reducible apply DV.pn_cons
    | with_reducible apply DV.pn_nil
    | with_reducible apply DV.nd_z
    | with_reducible apply DV.nd_s
    | with_reducible refine DV.wV_d ?_
    | with_reducible refine DV.wV_fr ?_
    | ((with_reducible apply DV.wV_env); (focus ((repeat (first | with_reducible apply DV.nt_z | with_reducible apply DV.nt_s | with_reducible apply DV.nt_app | with_reducible apply DV.nt_app0)); done)); (focus exact rfl))
    | with_reducible refine DV.wEnd_rt ?_
    | with_reducible refine DV.wEnd_nx ?_
    | with_reducible refine DV.wN_rt ?_
    | with_reducible refine DV.wN_bk ?_
    | with_reducible refine DV.wN_ct ?_
    | with_reducible refine DV.wJ_nx ?_
    | with_reducible refine DV.wJ_rt ?_
    | with_reducible refine DV.wJ_bk ?_
    | with_reducible refine DV.wJ_ct ?_
    | ((with_reducible apply DV.wP_ob); (focus ((repeat (first | with_reducible apply DV.nt_z | with_reducible apply DV.nt_s | with_reducible apply DV.nt_app | with_reducible apply DV.nt_app0)); done)); exact rfl)
    | ((with_reducible apply DV.wP_env); (focus ((repeat (first | with_reducible apply DV.nt_z | with_reducible apply DV.nt_s | with_reducible apply DV.nt_app | with_reducible apply DV.nt_app0)); done)); exact rfl)
    | with_reducible apply DV.wU_ob
    | with_reducible apply DV.wU_env
    | ((with_reducible refine DV.wG_eqt ?_ ?_); focus first | with_reducible exact DV.tyD_s | with_reducible exact DV.tyD_l | with_reducible exact DV.tyS_l | with_reducible exact DV.tyD_kl)
    | ((with_reducible refine DV.wG_le ?_ ?_); exact DV.le_lit rfl)
    | with_reducible refine DV.wF_frl ?_
    | with_reducible refine DV.wF_fro ?_
    | with_reducible refine DV.wLO_its ?_
    | with_reducible refine DV.wKO_its ?_
    | with_reducible apply DV.wX_mk
    | with_reducible apply DV.wq_nil
    | with_reducible apply DV.wq_cons
    | with_reducible apply DV.tq_nm
    | with_reducible apply DV.tq_tp0
    | with_reducible apply DV.tq_tp
    | with_reducible apply DV.wSto_lst
    | with_reducible apply DV.wStoE_lst
    | with_reducible apply DV.pu_nil
    | with_reducible apply DV.pu_cons
    | with_reducible apply DV.pu_app
    | with_reducible apply DV.pu_var
    | with_reducible apply DV.nt_app
    | with_reducible apply DV.nt_app0
    | with_reducible apply DV.st_app
    | with_reducible apply DV.st_app0
    | with_reducible apply DV.wPar_mk
    | with_reducible apply DV.wPar3_mk
    | with_reducible apply DV.lk_z
    | ((with_reducible apply DV.lk_s); focus decide +kernel)
    | with_reducible apply DV.lkn_nil
    | ((with_reducible refine DV.lkn_cons ?_ ?_); focus decide +kernel)
    | with_reducible refine DV.wG_self ?_ ?_
    | with_reducible refine DV.wZ_d ?_
    | ((with_reducible refine DV.wQ_own1 ?_ ?_); exact rfl)
    | with_reducible refine DV.wQ_blt ?_
    | ((with_reducible refine DV.wW_own1 ?_ ?_); exact rfl)
    | with_reducible refine DV.wW_blt ?_
    | with_reducible refine DV.wZ_frl ?_
    | with_reducible refine DV.wZ_fro ?_
    | with_reducible refine DV.wZ_env ?_
    | with_reducible apply DV.wS_fro
    | with_reducible apply DV.ev_cons
    | with_reducible apply DV.ev_nil
    | with_reducible apply DV.rp_s
    | with_reducible apply DV.rp_z
    | with_reducible apply DV.evI_mk
    ))
section
variable {α : Type} {ρ S S0 S1 S2 S4 : List Sl} {QR : Rv → List Sl → List Sl → Prop} {E : XQ} {Q : Rv → List Sl → Prop} {E1 : Exn → List Sl → Prop} {j k c i : Nat} {d : D} {x : Str} {J : CelL}
def exq (J : CelL) (ρ S S1 : List Sl) : Prop := exposeS J ρ S = some S1
def hdq (J : CelL) (S S1 : List Sl) : Prop := hideS J S = some S1
def rdq (J : CelL) (S ρ : List Sl) : Prop := rdS J S = some ρ
def rsq (J : CelL) (S0 S S1 : List Sl) : Prop := restoreS J S0 S = some S1
theorem exq_nil : exq [] ρ S S := rfl
theorem exq_cons (e : nt ρ i (.val d)) (e2 : nt S j (.rsv x)) (e3 : st S j (.cel x d) S1) (h : exq J ρ S1 S2) : exq ((x, j, i) :: J) ρ S S2 := by
  have e : ρ[i]? = _ := e
  have e2 : S[j]? = _ := e2
  obtain ⟨_, rfl⟩ := e3
  unfold exq
  simp only [exposeS, e, e2, if_true]
  exact h
theorem hdq_nil : hdq [] S S := rfl
theorem hdq_cons (e2 : nt S j (.cel x d)) (e3 : st S j (.rsv x) S1) (h : hdq J S1 S2) : hdq ((x, j, i) :: J) S S2 := by
  have e2 : S[j]? = _ := e2
  obtain ⟨_, rfl⟩ := e3
  unfold hdq
  simp only [hideS, e2, if_true]
  exact h
theorem rdq_nil : rdq [] S [] := rfl
theorem rdq_cons (e2 : nt S j (.cel x d)) (h : rdq J S ρ) : rdq ((x, j, i) :: J) S (.val d :: ρ) := by
  have e2 : S[j]? = _ := e2
  have h : rdS J S = _ := h
  unfold rdq
  simp only [rdS, e2, h, Option.map_some]
theorem rsq_nil : rsq [] S0 S S := rfl
theorem rsq_cons (e : nt S0 j (.cel x d)) (e2 : nt S j (.rsv x)) (e3 : st S j (.cel x d) S1) (h : rsq J S0 S1 S2) : rsq ((x, j, i) :: J) S0 S S2 := by
  have e : S0[j]? = _ := e
  have e2 : S[j]? = _ := e2
  obtain ⟨_, rfl⟩ := e3
  unfold rsq
  simp only [restoreS, e, e2, if_true]
  exact h
theorem wp_callE {m : List D → List Sl → Res Rv} {n : Nat} {gD : List D → List D → List D} {cs : M (List D)} (h : wp cs ρ S (fun ds ρ S => wG (ds.length = n ∧ 0 = 0) (wX (exq J ρ S) fun S1 => wArg (gD ds []) fun as => wm m as S1 (fun r S' => wX (hdq J S') fun S2 => QR r ρ S2) (fun _ _ => False))) E) : wp (cCallE J m n gD cs) ρ S QR E := by iterate
  refine wr_bind (wr_cons h (fun ds ρ S ⟨e, S1, e1, h⟩ => ?_) fun _ _ _ h => h)
  have e1 : exposeS J ρ S = some S1 := e1
  have h : wm m (gD ds []) S1 _ _ := h
  simp only [if_pos e.1, e1]
  unfold wm at h
  cases q : m (gD ds []) S1 with
  | bad => rw [q] at h; exact h.elim
  | ex y ρ' S' => rw [q] at h; exact h.elim
  | ok r ρ' S' t =>
    rw [q] at h
    obtain ⟨S3, e3, h⟩ := h
    have e3 : hideS J S' = some S3 := e3
    simp only [e3]
    exact h
def wNe (r : Rv) (p : Prop) : Prop := (∀ i, r ≠ .env i) ∧ p
theorem wNe_d {p : Prop} (h : p) : wNe (.d d) p := ⟨ne_d, h⟩
theorem wNe_fr {s : Sl} {p : Prop} (h : p) : wNe (.fr s) p := ⟨ne_fr, h⟩
def wTs (m : List D → List Sl → Res Rv) : List D → List D → List Sl → (List D → List Sl → Prop) → Prop
  | [], acc, S, P => P acc S
  | d :: ds, acc, S, P => wm m [d] S (fun r S' => ∃ x, r = .d x ∧ wTs m ds (acc ++ [x]) S' P) fun _ _ => False
theorem wTs_nil {m : List D → List Sl → Res Rv} {acc : List D} {P : List D → List Sl → Prop} (h : P acc S) : wTs m [] acc S P := h
end
end DV
namespace DV
open PySem PySem.Spec PyProof.Rows L2
end DV
namespace DV
open PySem PySem.Spec PyProof.Rows L2
def lnq (l : List D) (n : Nat) : Prop := l.length = n
theorem lnq_nil : lnq [] 0 := rfl
theorem lnq_cons {d : D} {l : List D} {n : Nat} (h : lnq l n) : lnq (d :: l) (n + 1) := by
  have h : l.length = n := h
  show (d :: l).length = n + 1
  rw [List.length_cons, h]
theorem wG_lnq {l k : List D} {a b : Nat} {q : Prop} (h : lnq l a) (h2 : lnq k b) (z : q) : wG (l.length = a ∧ k.length = b) q := ⟨⟨h, h2⟩, z⟩
theorem wG_lnq1 {l : List D} {a : Nat} {q : Prop} (h : lnq l a) (z : q) : wG (l.length = a ∧ 0 = 0) q := ⟨⟨h, rfl⟩, z⟩
theorem wF_envl {i : Nat} {a : List D} {ρ ρ' S : List Sl} {QD : D → List Sl → List Sl → Prop} (e : nt ρ i (.lst a)) (e2 : st ρ i (.val (.lst a)) ρ') (h : QD (.lst a) ρ' S) : wF (.env i) ρ S QD := wF_env e rfl e2 h
end DV
namespace DV
open PySem PySem.Spec PyProof.Rows L2
structure Sh (p : Prop) : Prop where
  out : p
section
variable {ρ ρ' S S' : List Sl} {E : XQ} {i j k : Nat} {QR : Rv → List Sl → List Sl → Prop} {QF : Fl → List Sl → List Sl → Prop} {QD : D → List Sl → List Sl → Prop}
theorem h_wp_name {d : D} (e : nt ρ i (.val d)) (h : QR (.d d) ρ S) : Sh (wp (cName i) ρ S QR E) := ⟨wp_name e h⟩
theorem h_wp_nameO {s : Sl} (e : nt ρ i s) (o : s.one = true) (h : QR (.env i) ρ S) : Sh (wp (cName i) ρ S QR E) := ⟨wp_nameO e o h⟩
theorem h_wp_nameI {c fs} (e : nt ρ i (.ins c fs)) (h : QR (.env i) ρ S) : Sh (wp (cName i) ρ S QR E) := ⟨wp_nameI e h⟩
theorem h_wp_lam {q : Str} (e : nt ρ i (.tab q)) (h : QR (.d (.fn k)) ρ S) : Sh (wp (cLam k i q) ρ S QR E) := ⟨wp_lam e h⟩
theorem h_wS_d {own : Bool} {d : D} (e : st ρ i (.val d) ρ') (h : QF .nx ρ' S) : Sh (wS own i (.d d) ρ S QF) := ⟨wS_d e h⟩
theorem h_wS_frfl {a} (e : st ρ i (.val (.lst a)) ρ') (h : QF .nx ρ' S) : Sh (wS false i (.fr (.lst a)) ρ S QF) := ⟨wS_frfl e h⟩
theorem h_wS_frt {s : Sl} (e : st ρ i s ρ') (h : QF .nx ρ' S) : Sh (wS true i (.fr s) ρ S QF) := ⟨wS_frt e h⟩
theorem h_wS_fro {c fs} (e : st ρ i (.val (.ins c fs)) ρ') (h : QF .nx ρ' S) : Sh (wS false i (.fr (.ins c (objF fs))) ρ S QF) := ⟨wS_fro e h⟩
theorem h_wArg_mk {l as : List D} {P : List D → Prop} (e : aq l as) (h : P as) : Sh (wArg l P) := ⟨wArg_mk e h⟩
theorem h_wU_ob {Q : List Sl → List Sl → Prop} {s : Sl} (e : st S j s S') (h : Q ρ S') : Sh (wU (.d (.ob j)) s ρ S Q) := ⟨wU_ob e h⟩
theorem h_wU_env {Q : List Sl → List Sl → Prop} {s : Sl} (e : st ρ i s ρ') (h : Q ρ' S) : Sh (wU (.env i) s ρ S Q) := ⟨wU_env e h⟩
theorem h_wV_env {s : Sl} (e : nt ρ i s) (o : s.own? = true) (e2 : st ρ i .emp ρ') (h : QR (.fr s) ρ' S) : Sh (wV (.env i) ρ S QR) := ⟨wV_env e o e2 h⟩
theorem h_wSto_lst {n : Nat} {a} (e : pu S (.lst a) n S') (e2 : st ρ i (.val (.ob n)) ρ') (h : QF .nx ρ' S') : Sh (wSto i (.fr (.lst a)) ρ S QF) := ⟨wSto_lst e e2 h⟩
theorem h_wStoE_lst {n : Nat} {a} (e : pu S (.lst a) n S') (h : QR (.d (.ob n)) ρ S') : Sh (wStoE (.fr (.lst a)) ρ S QR) := ⟨wStoE_lst e h⟩
theorem h_wF_envl {a : List D} (e : nt ρ i (.lst a)) (e2 : st ρ i (.val (.lst a)) ρ') (h : QD (.lst a) ρ' S) : Sh (wF (.env i) ρ S QD) := ⟨wF_envl e e2 h⟩
end
theorem gd_wF {x0 x1 x2 x3} (h : wF x0 x1 x2 x3) : wF x0 x1 x2 x3 := h
theorem gd_wS {x0 x1 x2 x3 x4 x5} (h : wS x0 x1 x2 x3 x4 x5) : wS x0 x1 x2 x3 x4 x5 := h
theorem gd_wN {x0 x1 x2} (h : wN x0 x1 x2) : wN x0 x1 x2 := h
theorem gd_wArg {x0 x1} (h : wArg x0 x1) : wArg x0 x1 := h
theorem gd_wCs {x0 x1 x2 x3} (h : wCs x0 x1 x2 x3) : wCs x0 x1 x2 x3 := h
theorem gd_wB {x0 x1} (h : wB x0 x1) : wB x0 x1 := h
theorem gd_wI {x0 x1 x2} (h : wI x0 x1 x2) : wI x0 x1 x2 := h
theorem gd_wG {x0 x1} (h : wG x0 x1) : wG x0 x1 := h
theorem gd_wV {x0 x1 x2 x3} (h : wV x0 x1 x2 x3) : wV x0 x1 x2 x3 := h
theorem gd_wEnd {x0 x1 x2} (h : wEnd x0 x1 x2) : wEnd x0 x1 x2 := h
theorem gd_wJ {x0 x1 x2 x3 x4} (h : wJ x0 x1 x2 x3 x4) : wJ x0 x1 x2 x3 x4 := h
theorem gd_wP {x0 x1 x2 x3} (h : wP x0 x1 x2 x3) : wP x0 x1 x2 x3 := h
theorem gd_wU {x0 x1 x2 x3 x4} (h : wU x0 x1 x2 x3 x4) : wU x0 x1 x2 x3 x4 := h
theorem gd_wLO {x0 x1 x2 x3 x4 x5 x6 x7} (h : wLO x0 x1 x2 x3 x4 x5 x6 x7) : wLO x0 x1 x2 x3 x4 x5 x6 x7 := h
theorem gd_wKO {x0 x1 x2 x3 x4 x5 x6 x7 x8} (h : wKO x0 x1 x2 x3 x4 x5 x6 x7 x8) : wKO x0 x1 x2 x3 x4 x5 x6 x7 x8 := h
theorem gd_wX {a : Type} {x0 x1 : a → Prop} (h : wX x0 x1) : wX x0 x1 := h
theorem gd_wSto {x0 x1 x2 x3 x4} (h : wSto x0 x1 x2 x3 x4) : wSto x0 x1 x2 x3 x4 := h
theorem gd_wStoE {x0 x1 x2 x3} (h : wStoE x0 x1 x2 x3) : wStoE x0 x1 x2 x3 := h
theorem gd_wPar {x0 x1 x2 x3 x4 x5} (h : wPar x0 x1 x2 x3 x4 x5) : wPar x0 x1 x2 x3 x4 x5 := h
theorem gd_wPar3 {x0 x1 x2 x3 x4 x5 x6} (h : wPar3 x0 x1 x2 x3 x4 x5 x6) : wPar3 x0 x1 x2 x3 x4 x5 x6 := h
theorem gd_lkn {x0 x1} (h : lkn x0 x1) : lkn x0 x1 := h
theorem gd_wZ {x0 x1} (h : wZ x0 x1) : wZ x0 x1 := h
theorem gd_wQ {x0 x1 x2 x3 x4 x5 x6 x7} (h : wQ x0 x1 x2 x3 x4 x5 x6 x7) : wQ x0 x1 x2 x3 x4 x5 x6 x7 := h
theorem gd_wW {x0 x1 x2 x3 x4 x5 x6} (h : wW x0 x1 x2 x3 x4 x5 x6) : wW x0 x1 x2 x3 x4 x5 x6 := h
theorem gd_wNe {x0 x1} (h : wNe x0 x1) : wNe x0 x1 := h
theorem gd_wTs {x0 x1 x2 x3 x4} (h : wTs x0 x1 x2 x3 x4) : wTs x0 x1 x2 x3 x4 := h
theorem h_st {x0 x1 x2 x3} (h : st x0 x1 x2 x3) : Sh (st x0 x1 x2 x3) := ⟨h⟩
theorem h_nt {x0 x1 x2} (h : nt x0 x1 x2) : Sh (nt x0 x1 x2) := ⟨h⟩
theorem h_aq {x0 x1} (h : aq x0 x1) : Sh (aq x0 x1) := ⟨h⟩
theorem h_pn {x0 x1 x2} (h : pn x0 x1 x2) : Sh (pn x0 x1 x2) := ⟨h⟩
theorem h_nd {x0 x1 x2} (h : nd x0 x1 x2) : Sh (nd x0 x1 x2) := ⟨h⟩
theorem h_lnq {x0 x1} (h : lnq x0 x1) : Sh (lnq x0 x1) := ⟨h⟩
theorem h_wq {x0 x1 x2} (h : wq x0 x1 x2) : Sh (wq x0 x1 x2) := ⟨h⟩
theorem h_tq {x0 x1 x2 x3} (h : tq x0 x1 x2 x3) : Sh (tq x0 x1 x2 x3) := ⟨h⟩
theorem h_pu {x0 x1 x2 x3} (h : pu x0 x1 x2 x3) : Sh (pu x0 x1 x2 x3) := ⟨h⟩
theorem h_lk {x0 x1 x2} (h : lk x0 x1 x2) : Sh (lk x0 x1 x2) := ⟨h⟩
theorem h_ev {x0 x1 x2} (h : ev x0 x1 x2) : Sh (ev x0 x1 x2) := ⟨h⟩
theorem h_rp {x0 x1} (h : rp x0 x1) : Sh (rp x0 x1) := ⟨h⟩
theorem h_evI {x0 x1 x2 x3} (h : evI x0 x1 x2 x3) : Sh (evI x0 x1 x2 x3) := ⟨h⟩
theorem h_exq {x0 x1 x2 x3} (h : exq x0 x1 x2 x3) : Sh (exq x0 x1 x2 x3) := ⟨h⟩
theorem h_hdq {x0 x1 x2} (h : hdq x0 x1 x2) : Sh (hdq x0 x1 x2) := ⟨h⟩
theorem h_rdq {x0 x1 x2} (h : rdq x0 x1 x2) : Sh (rdq x0 x1 x2) := ⟨h⟩
theorem h_rsq {x0 x1 x2 x3} (h : rsq x0 x1 x2 x3) : Sh (rsq x0 x1 x2 x3) := ⟨h⟩
end DV
namespace DV
open PySem PySem.Spec PyProof.Rows L2
/-- what goes into a slot: own keeps a new thing -/
def fixS (own : Bool) (r : Rv) : M Sl := fun ρ S => match own, r with
  | true, .fr s => .ok s ρ S false
  | _, r => (toD r ρ S).bind fun d ρ S => .ok (.val d) ρ S false
def cPar2 (o1 o2 : Bool) (i j : Nat) (ca cb : M Rv) : M Fl := fun ρ S => (ca ρ S).bind fun ra ρ S => (fixS o1 ra ρ S).bind fun s1 ρ S => (cb ρ S).bind fun rb ρ S => (fixS o2 rb ρ S).bind fun s2 ρ S =>
  if i < ρ.length ∧ j < ρ.length then .ok .nx ((ρ.set i s1).set j s2) S false else .bad
section
variable {X : Cx} {Γ : Gm} {W : WX} {P : List Nat} {w0 w1 : Wd} {σ : L2.St} {ρ S : List Sl} {D : Ends}
/-- a slot's thing, not yet put down -/
def FlyOk (Γ : Gm) (w0 w : Wd) (s : Sl) (v : V) : Prop := ∃ c, Own Γ w.R w.F s v c ∧ Fresh w c ∧ ∀ p ∈ c, w0.H p.1 = none ∨ p.1 ∈ w0.ad
theorem FlyOk.up {w2 : Wd} {s : Sl} {v : V} (x : Ext w1 w2) : FlyOk Γ w0 w1 s v → FlyOk Γ w0 w2 s v
  | ⟨c, o, f, b⟩ => ⟨c, Own.up x.gr _ _ _ o, f.up x (Own.nt _ _ _ o), b⟩
end
def wFx (own : Bool) (r : Rv) (ρ S : List Sl) (Q : Sl → List Sl → List Sl → Prop) : Prop := wr (fixS own r ρ S) Q fun _ _ _ => False
section
variable {ρ S : List Sl} {E : XQ} {QS : Sl → List Sl → List Sl → Prop} {QF : Fl → List Sl → List Sl → Prop}
theorem wFx_d {own : Bool} {d : D} (h : QS (.val d) ρ S) : wFx own (.d d) ρ S QS := by cases own <;> exact h
theorem wFx_frt {s : Sl} (h : QS s ρ S) : wFx true (.fr s) ρ S QS := h
theorem wFx_frfl {a : List D} (h : QS (.val (.lst a)) ρ S) : wFx false (.fr (.lst a)) ρ S QS := h
theorem wp_par2 {o1 o2 : Bool} {i j : Nat} {ca cb : M Rv} (h : wp ca ρ S (fun ra ρ S => wFx o1 ra ρ S fun s1 ρ S => wp cb ρ S (fun rb ρ S => wFx o2 rb ρ S fun s2 ρ S => wX (st ρ i s1) fun ρ1 => wX (st ρ1 j s2) fun ρ2 => QF .nx ρ2 S) E) E) : wp (cPar2 o1 o2 i j ca cb) ρ S QF E :=
  wr_bind (wr_cons h (fun _ _ _ h => wr_bind (wr_cons (wr_noE h) (fun _ _ _ h => wr_bind (wr_cons h (fun _ _ _ h => wr_bind (wr_cons (wr_noE h) (fun s2 ρ S h => by
    obtain ⟨ρ1, ⟨l1, rfl⟩, ρ2, ⟨l2, rfl⟩, h⟩ := h
    rw [List.length_set] at l2
    simp only [l1, l2, and_self, if_true]
    exact h) fun _ _ _ h => h)) fun _ _ _ h => h)) fun _ _ _ h => h)) fun _ _ _ h => h)
theorem gd_wFx {x0 x1 x2 x3 x4} (h : wFx x0 x1 x2 x3 x4) : wFx x0 x1 x2 x3 x4 := h
end
end DV
namespace DV
open PySem PySem.Spec PyProof.Rows L2
def pairK : D → Option (Key × D)
  | .tup [k, v] => (keyD k).map fun k => (k, v)
  | _ => none
def pairsK : List D → Option (List (Key × D))
  | [] => some []
  | x :: xs => match pairK x, pairsK xs with
    | some p, some ps => some (p :: ps)
    | _, _ => none
def merD (kvs more : List (Key × D)) : List (Key × D) := more.foldl (fun acc kv => puk acc kv.1 kv.2) kvs
def gDict : List D → Option Rv
  | [.lst ps] => (pairsK ps).map fun kvs => .fr (.dK (merD [] kvs))
  | _ => none
section
variable {ρ ρ' S : List Sl} {i : Nat} {QF : Fl → List Sl → List Sl → Prop}
theorem h_wS_frd {a} (e : st ρ i (.val (.dK a)) ρ') (h : QF .nx ρ' S) : Sh (wS false i (.fr (.dK a)) ρ S QF) := ⟨wS_frf rfl e h⟩
end
end DV
namespace DV
open PySem PySem.Spec PyProof.Rows L2
end DV
namespace DV
open PySem PySem.Spec PyProof.Rows L2
def prsK : List D → Option (List (Key × D))
  | [] => some []
  | [_] => none
  | k :: v :: r => match keyD k, prsK r with
    | some k, some ps => some ((k, v) :: ps)
    | _, _ => none
def cConsP (ck cv : M Rv) (cs : M (List D)) : M (List D) := fun ρ S => (cD ck ρ S).bind fun d ρ S => (cD cv ρ S).bind fun e ρ S => (cs ρ S).bind fun ds ρ S => .ok (d :: e :: ds) ρ S false
def cDisp (cs : M (List D)) : M Rv := fun ρ S => (cs ρ S).bind fun ds ρ S => match prsK ds with
  | some kvs => if kvs.length ≤ 15 then .ok (.fr (.dK (merD [] kvs))) ρ S false else .bad
  | none => .bad
section
variable {X : Cx} {Γ : Gm} {W : WX} {w : Wd} {pos : Pos} {k v : Expr} {ks : List (Option Expr)} {vs : List Expr} {ck cv : M Rv} {cs : M (List D)}
/-- {} -/
def cDic0 : M Rv := fun ρ S => .ok (.fr (.dK [])) ρ S false
def cDic0T : M Rv := fun ρ S => .ok (.fr (.dT [])) ρ S false
end
def isDk : D → Bool
  | .dK _ => true
  | .dT _ => true
  | .lt _ => true
  | _ => false
def cGet2 (co ck cx : M Rv) : M Rv := fun ρ S => (co ρ S).bind fun ro ρ S => match cont ρ S ro with
  | some d0 => if isDk d0 = true then (cD ck ρ S).bind fun k ρ S => (cD cx ρ S).bind fun x ρ S => match cont ρ S ro with
    | some d => lift ((dGet d k).map fun o => .d (o.getD x)) ρ S
    | none => .bad else .bad
  | none => .bad
def cGet1 (co ck : M Rv) : M Rv := fun ρ S => (co ρ S).bind fun ro ρ S => match cont ρ S ro with
  | some d0 => if isDk d0 = true then (cD ck ρ S).bind fun k ρ S => match cont ρ S ro with
    | some d => lift ((dGet d k).map fun o => .d (o.getD .non)) ρ S
    | none => .bad else .bad
  | none => .bad
section
variable {X : Cx} {Γ : Gm} {W : WX} {w : Wd} {o e f : Expr} {co ck cx : M Rv} {apos cpos : Pos}
def itemsD (kvs : List (Key × D)) : List D := kvs.map fun kv => .tup [keyV kv.1, kv.2]
def cItems (co : M Rv) : M Rv := fun ρ S => (co ρ S).bind fun ro ρ S => match cont ρ S ro with
  | some (.dK kvs) => .ok (.fr (.lst (itemsD kvs))) ρ S false
  | _ => .bad
end
section
variable {ρ S : List Sl} {QR : Rv → List Sl → List Sl → Prop} {QL : List D → List Sl → List Sl → Prop} {E : XQ} {P : Rv → Prop}
theorem wO_list_dK {kvs : List (Key × D)} (h : P (.fr (.lst (kvs.map fun kv => keyV kv.1)))) : wO (gList [.dK kvs]) P := ⟨_, rfl, h⟩
theorem wp_consP {ck cv : M Rv} {cs : M (List D)} (h : wp ck ρ S (fun r ρ S => wF r ρ S fun d ρ S => wp cv ρ S (fun r ρ S => wF r ρ S fun e ρ S => wp cs ρ S (fun ds ρ S => QL (d :: e :: ds) ρ S) E) E) E) : wp (cConsP ck cv cs) ρ S QL E :=
  wr_bind (wr_cons (wp_D h) (fun _ _ _ h => wr_bind (wr_cons (wp_D h) (fun _ _ _ h => wr_bind (wr_cons h (fun _ _ _ h => h) fun _ _ _ h => h)) fun _ _ _ h => h)) fun _ _ _ h => h)
theorem wp_disp {cs : M (List D)} (h : wp cs ρ S (fun ds ρ S => wO (prsK ds) fun kvs => wG (kvs.length ≤ 15) (QR (.fr (.dK (merD [] kvs))) ρ S)) E) : wp (cDisp cs) ρ S QR E :=
  wr_bind (wr_cons h (fun _ _ _ ⟨kvs, e, l, h⟩ => by simp only [e, if_pos l]; exact h) fun _ _ _ h => h)
theorem wp_dic0 (h : QR (.fr (.dK [])) ρ S) : wp cDic0 ρ S QR E := h
theorem wp_dic0T (h : QR (.fr (.dT [])) ρ S) : wp cDic0T ρ S QR E := h
theorem wp_get2 {co ck cx : M Rv} (h : wp co ρ S (fun ro ρ S => wC ro ρ S fun d0 => wG (isDk d0 = true) (wp ck ρ S (fun r ρ S => wF r ρ S fun k ρ S => wp cx ρ S (fun r ρ S => wF r ρ S fun x ρ S => wC ro ρ S fun d => wO (dGet d k) fun o => QR (.d (o.getD x)) ρ S) E) E)) E) : wp (cGet2 co ck cx) ρ S QR E :=
  wr_bind (wr_cons h (fun _ _ _ ⟨d0, e, l, h⟩ => by
    simp only [e, if_pos l]
    exact wr_bind (wr_cons (wp_D h) (fun _ _ _ h => wr_bind (wr_cons (wp_D h) (fun _ _ _ ⟨d, e2, o, e3, h⟩ => by simp only [e2, e3]; exact h) fun _ _ _ h => h)) fun _ _ _ h => h)) fun _ _ _ h => h)
theorem wp_get1 {co ck : M Rv} (h : wp co ρ S (fun ro ρ S => wC ro ρ S fun d0 => wG (isDk d0 = true) (wp ck ρ S (fun r ρ S => wF r ρ S fun k ρ S => wC ro ρ S fun d => wO (dGet d k) fun o => QR (.d (o.getD .non)) ρ S) E)) E) : wp (cGet1 co ck) ρ S QR E :=
  wr_bind (wr_cons h (fun _ _ _ ⟨d0, e, l, h⟩ => by
    simp only [e, if_pos l]
    exact wr_bind (wr_cons (wp_D h) (fun _ _ _ ⟨d, e2, o, e3, h⟩ => by simp only [e2, e3]; exact h) fun _ _ _ h => h)) fun _ _ _ h => h)
def itmO : D → Option (List (Key × D))
  | .dK kvs => some kvs
  | _ => none
theorem wO_itm {kvs : List (Key × D)} {P : List (Key × D) → Prop} (h : P kvs) : wO (itmO (.dK kvs)) P := ⟨_, rfl, h⟩
theorem wp_items {co : M Rv} (h : wp co ρ S (fun ro ρ S => wC ro ρ S fun d => wO (itmO d) fun kvs => QR (.fr (.lst (itemsD kvs))) ρ S) E) : wp (cItems co) ρ S QR E :=
  wr_bind (wr_cons h (fun _ _ _ ⟨d, e, kvs, e2, h⟩ => by
    unfold itmO at e2
    split at e2
    · cases e2
      simp only [e]
      exact h
    · cases e2) fun _ _ _ h => h)
theorem wC_frd {a : List (Key × D)} {PD : D → Prop} (h : PD (.dK a)) : wC (.fr (.dK a)) ρ S PD := ⟨_, rfl, h⟩
theorem wF_frd {a : List (Key × D)} {QD : D → List Sl → List Sl → Prop} (h : QD (.dK a) ρ S) : wF (.fr (.dK a)) ρ S QD := wF_fr rfl h
theorem wG_dK {kvs : List (Key × D)} {q : Prop} (h : q) : wG (isDk (.dK kvs) = true) q := ⟨rfl, h⟩
theorem wO_dgs {kvs : List (Key × D)} {x : Str} {P : Option D → Prop} (h : P (luk kvs (.inr x : Key))) : wO (dGet (.dK kvs) (.str x)) P := ⟨_, rfl, h⟩
theorem wO_dgi {kvs : List (Key × D)} {x : Int} {P : Option D → Prop} (h : P (luk kvs (.inl x : Key))) : wO (dGet (.dK kvs) (.int x)) P := ⟨_, rfl, h⟩
end
end DV
namespace DV
open PySem PySem.Spec PyProof.Rows L2
def gDictC : List D → Option Rv
  | [.dK kvs] => some (.fr (.dK kvs))
  | _ => none
def gDict2 : List D → Option Rv := fun ds => (gDict ds).or (gDictC ds)
def cVals (co : M Rv) : M Rv := fun ρ S => (co ρ S).bind fun ro ρ S => match cont ρ S ro with
  | some (.dK kvs) => .ok (.fr (.lst (kvs.map (·.2)))) ρ S false
  | _ => .bad
def compDM (vs : List Nat) (g : Tgt) (t : M Bool) (ck cv : M Rv) : List D → List (Key × D) → M (List (Key × D))
  | [], acc => fun ρ S => .ok acc ρ S false
  | d :: ds, acc => fun ρ S => match bindT g d ρ with
    | none => .bad
    | some ρ1 => match t ρ1 S with
      | .ok true ρ2 S2 _ => (match cD ck ρ2 S2 with
        | .ok dk ρ3 S3 _ => (match cD cv ρ3 S3 with
          | .ok dv ρ4 S4 _ => (match keyD dk with
            | some k => if acc.length < sizeLine then compDM vs g t ck cv ds (puk acc k dv) (wipeS ρ4 vs) S4 else .bad
            | none => .bad)
          | _ => .bad)
        | _ => .bad)
      | .ok false ρ2 S2 _ => compDM vs g t ck cv ds acc (wipeS ρ2 vs) S2
      | _ => .bad
def cDc (ci : M (List D)) (vs : List Nat) (g : Tgt) (t : M Bool) (ck cv : M Rv) : M Rv := fun ρ S => match ci ρ S with
  | .ok ds ρ1 S1 _ => (match compDM vs g t ck cv ds [] (wipeS ρ1 vs) S1 with
    | .ok acc ρ2 S2 _ => .ok (.fr (.dK acc)) ρ2 S2 true
    | _ => .bad)
  | .ex x ρ1 S1 => .ex x ρ1 S1
  | .bad => .bad
section
variable {ρ ρ' S S' : List Sl} {QR : Rv → List Sl → List Sl → Prop} {QK : List (Key × D) → List Sl → List Sl → Prop} {E : XQ} {P : Rv → Prop} {vs : List Nat} {g : Tgt} {t : M Bool} {ck cv : M Rv} {ds : List D} {acc : List (Key × D)} {d : D}
theorem wO_dict2_d {kvs : List (Key × D)} (h : P (.fr (.dK kvs))) : wO (gDict2 [.dK kvs]) P := ⟨_, rfl, h⟩
theorem wp_vals {co : M Rv} (h : wp co ρ S (fun ro ρ S => wC ro ρ S fun d => wO (itmO d) fun kvs => QR (.fr (.lst (kvs.map (·.2)))) ρ S) E) : wp (cVals co) ρ S QR E :=
  wr_bind (wr_cons h (fun _ _ _ ⟨d, e, kvs, e2, h⟩ => by
    unfold itmO at e2
    split at e2
    · cases e2
      simp only [e]
      exact h
    · cases e2) fun _ _ _ h => h)
def wKD (vs : List Nat) (g : Tgt) (t : M Bool) (ck cv : M Rv) (ds : List D) (acc : List (Key × D)) (ρ S : List Sl) (Q : List (Key × D) → List Sl → List Sl → Prop) : Prop := wr (compDM vs g t ck cv ds acc ρ S) Q fun _ _ _ => False
theorem wp_dc {ci : M (List D)} (h : wp ci ρ S (fun ds ρ S => wX (wq ρ vs) fun ρ' => wKD vs g t ck cv ds [] ρ' S fun acc ρ S => QR (.fr (.dK acc)) ρ S) E) : wp (cDc ci vs g t ck cv) ρ S QR E := by iterate
  unfold wp cDc at *
  cases q : ci ρ S with
  | ok f ρ1 S1 t1 =>
    rw [q] at h
    obtain ⟨ρ', e, h⟩ := h
    have e : wipeS ρ1 vs = ρ' := e
    subst e
    unfold wKD at h
    simp only []
    cases q2 : compDM vs g t ck cv f [] (wipeS ρ1 vs) S1 with
    | ok acc ρ2 S2 t2 => rw [q2] at h; exact h
    | ex x ρ S => rw [q2] at h; exact h.elim
    | bad => rw [q2] at h; exact h.elim
  | ex x ρ S => rw [q] at h; exact h
  | bad => rw [q] at h; exact h
end
section
variable {ρ ρ' ρ1 S : List Sl} {i j : Nat} {QD : D → List Sl → List Sl → Prop} {QF : Fl → List Sl → List Sl → Prop}
theorem h_wF_envK {a : List (Key × D)} (e : nt ρ i (.dK a)) (e2 : st ρ i (.val (.dK a)) ρ') (h : QD (.dK a) ρ' S) : Sh (wF (.env i) ρ S QD) := ⟨wF_env e rfl e2 h⟩
theorem h_wS_envK {own : Bool} {a : List (Key × D)} (e0 : nt ρ j (.dK a)) (e1 : st ρ j (.val (.dK a)) ρ1) (e : st ρ1 i (.val (.dK a)) ρ') (h : QF .nx ρ' S) : Sh (wS own i (.env j) ρ S QF) := ⟨wS_envf e0 rfl e1 e h⟩
theorem h_wS_envl {own : Bool} {a : List D} (e0 : nt ρ j (.lst a)) (e1 : st ρ j (.val (.lst a)) ρ1) (e : st ρ1 i (.val (.lst a)) ρ') (h : QF .nx ρ' S) : Sh (wS own i (.env j) ρ S QF) := ⟨wS_envf e0 rfl e1 e h⟩
end
theorem tyS_k {z : List (Key × D)} : tyS "dict" (.dK z) = true := by simp [tyS]
theorem tyS_t {z : List (List Key × D)} : tyS "dict" (.dT z) = true := by simp [tyS]
theorem wO_len_dK {xs : List (Key × D)} {P : Rv → Prop} (h : P (.d (.int xs.length))) : wO (gLen [.dK xs]) P := ⟨_, rfl, h⟩
theorem wO_len_dT {xs : List (List Key × D)} {P : Rv → Prop} (h : P (.d (.int xs.length))) : wO (gLen [.dT xs]) P := ⟨_, rfl, h⟩
end DV
namespace DV
open PySem PySem.Spec PyProof.Rows L2
end DV
namespace DV
open PySem PySem.Spec PyProof.Rows L2
end DV
namespace DV
open PySem PySem.Spec PyProof.Rows L2
/-- the built-in base -/
inductive XB where
  | ve | le | ie
  deriving DecidableEq
def XB.tl : XB → List Value
  | .ve => [.type "ValueError", .type "Exception", .type "BaseException", .type "object"]
  | .le => [.type "LookupError", .type "Exception", .type "BaseException", .type "object"]
  | .ie => [.type "IndexError", .type "LookupError", .type "Exception", .type "BaseException", .type "object"]
def XB.nw : XB → String
  | .ve => "ValueError.__new__"
  | .le => "LookupError.__new__"
  | .ie => "IndexError.__new__"
def XB.ini : XB → String
  | .ve => "ValueError.__init__"
  | .le => "LookupError.__init__"
  | .ie => "IndexError.__init__"
def XB.nm : XB → String
  | .ve => "ValueError"
  | .le => "LookupError"
  | .ie => "IndexError"
theorem XB.facts (b : XB) : ExcBaseFacts b.nm b.nw b.ini b.tl := by
  cases b
  · exact F.excBase_ValueError
  · exact F.excBase_LookupError
  · exact F.excBase_IndexError
theorem XB.lets (b : XB) (self : Value) : refuseLoop self "__setattr__" b.tl = pure () := by
  cases b
  · exact F.store_ValueError.passes self
  · exact F.store_LookupError.passes self
  · exact F.store_IndexError.passes self
/-- own classes, then the base's own row -/
def XB.row (b : XB) : List Value → Bool
  | [] => false
  | .ref _ :: l => b.row l
  | .type n :: l => (Value.type n :: l) == b.tl
  | _ => false
theorem XB.row_ind {b : XB} {P : List Value → Prop} (h0 : P b.tl) (h1 : ∀ c l, P l → P (.ref c :: l)) : ∀ l, b.row l = true → P l
  | [], e => by cases e
  | .ref c :: l, e => h1 c l (XB.row_ind h0 h1 l e)
  | .type n :: l, e => by
    have e : ((Value.type n :: l) == b.tl) = true := e
    rw [beq_iff_eq.mp e]; exact h0
  | .none :: _, e => by cases e
  | .ellipsis :: _, e => by cases e
  | .notImplemented :: _, e => by cases e
  | .bool _ :: _, e => by cases e
  | .int _ _ :: _, e => by cases e
  | .float _ _ :: _, e => by cases e
  | .str _ _ :: _, e => by cases e
  | .bytes _ _ :: _, e => by cases e
  | .builtin _ :: _, e => by cases e
theorem XB.row_lets {b : XB} {l : List Value} (h : b.row l = true) (self : Value) : refuseLoop self "__setattr__" l = pure () :=
  XB.row_ind (P := fun l => refuseLoop self "__setattr__" l = pure ()) (b.lets self) (fun c l ih => by rw [refuseLoop_ref]; exact ih) l h
theorem XB.row_has {b : XB} {l : List Value} (h : b.row l = true) (Y : String) : l.contains (.type Y) = b.tl.contains (.type Y) :=
  XB.row_ind (P := fun l => l.contains (.type Y) = b.tl.contains (.type Y)) rfl (fun c l ih => by rw [List.contains_cons, ih]; rfl) l h
theorem XB.row_obj {b : XB} {l : List Value} (h : b.row l = true) : l.contains (.type "object") = true := by
  rw [XB.row_has h]; cases b <;> decide +kernel
theorem XB.row_ne {b : XB} {l : List Value} (h : b.row l = true) : l.isEmpty = false :=
  XB.row_ind (P := fun l => l.isEmpty = false) (by cases b <;> rfl) (fun c l _ => rfl) l h
/-- what the written part says of such a class -/
structure OxB (K : PySem.W.Frag) (C : Addr) (b : XB) : Prop where
  cls : ∃ nm q N bs bm sn sub ab col dd k0 k1 k2 k3 k5, K.lookup C = some (excClassObj nm q C N bs bm true sn sub ab col dd k0 k1 k2 k3 k5 b.nw) ∧ b.row bm = true
  sa : PySem.W.findIn K (.ref C) "__setattr__" = some (some (.builtin "object.__setattr__"))
  exC : PySem.W.subIn K (.ref C) (.type "BaseException") = some true
  tyC : PySem.W.typeIn K (.ref C) = some (.type "type")
  kC : PySem.W.keepIn K (.ref C) = true
theorem OxB.cd {K : PySem.W.Frag} {C : Addr} {b : XB} (T : OxB K C b) : ∃ cd, PySem.W.clsIn K C = some cd ∧ b.row cd.mro = true ∧ cd.hasDict = true := by
  obtain ⟨nm, q, N, bs, bm, sn, sub, ab, col, dd, k0, k1, k2, k3, k5, hC, hb⟩ := T.cls
  exact ⟨_, by unfold PySem.W.clsIn; rw [hC] <;> rfl, hb, rfl⟩
section
open PySem.W PySem.Calls Builtin Builtin.ObjectAttr
variable {P : Program} {wd : World} {A : Around} {R : Result → Shared → Prop} {h0 : Heap} {gs : Array GenState} {dr : Drawn} {tt : Nat} {os : OsState} {K : PySem.W.Frag} {nm : Str} {tk : Tok} {val : Value} {x C : Addr} {fv : Array Value} {cd : ClassData} {b : XB}
/-- object.__setattr__ on such an object comes down to its dict -/
theorem osa_down {od : Option Addr} {oo : Option Obj} (hK : K.In h0) (J : PySem.W.InstAt h0 x { cls := .ref C, dict := od, data := .fields fv } C oo) (hcd : PySem.W.clsIn K C = some cd) (hrow : b.row cd.mro = true) (hno : PySem.W.findIn K (.ref C) nm = some none)
    (hq : wpAny (model P wd) A.in1 (storeInOwnDict (.ref x) (.ref C) (.str nm tk) nm val false) (fun fin s' => match fin with | .done f => R (.ok f) s' | .again c' => c'.quiet = true ∧ codeAny (model P wd) A c' R s') (fun e s' => R (.error e) s') ⟨h0, gs, dr, tt, os⟩) :
    codeAny (model P wd) A (.call (.builtin "object.__setattr__") ⟨[.ref x, .str nm tk, val], []⟩) R ⟨h0, gs, dr, tt, os⟩ := by iterate
  have fs := F.store_object
  have isO : PySem.W.Looks (model P wd) h0 (isInstance (.ref x) (.type "object")) true :=
    J.type.andThen (PySem.W.looks_mroIn hK (by unfold PySem.W.mroIn; rw [hcd, Option.bind_some, if_neg (by rw [XB.row_ne hrow]; decide), XB.row_obj hrow]))
  have rowAt : PySem.W.Looks (model P wd) h0 (mroOf (.ref C)) cd.mro := (PySem.W.looks_clsIn hK hcd).andThen .now
  have noTaker : PySem.W.Looks (model P wd) h0 (storeTaker? none) none := .now
  have seen := @PySem.W.check_slot (model P wd) A.in1 (fun e s' => R (.error e) s') ⟨h0, gs, dr, tt, os⟩ "object.__setattr__" "object" "__setattr__" (.ref x) [.str nm tk, val] []
  refine codeAny_call_builtin fs.slot.plain fs.entry (seen fs.kind fs.split isO (fs.args (.ref x) (.str nm tk) val) ?_)
  rw [PySem.W.osa_eq]
  refine wpAny_bind ?_
  rw [refuse_eq]
  refine wpAny_bind (J.type.at (wpAny_bind (rowAt.at ?_)))
  rw [XB.row_lets hrow]
  exact wpAny_pure (wpAny_bind (J.type.at (wpAny_bind ((PySem.W.looks_findIn hK hno).at (wpAny_bind (noTaker.at hq))))))
/-- the first field: the dict is new -/
theorem osa_fresh (hK : K.In h0) (hx : h0.get? x = some { cls := .ref C, data := .fields fv }) (hcd : PySem.W.clsIn K C = some cd) (hrow : b.row cd.mro = true) (hd : cd.hasDict = true) (hno : PySem.W.findIn K (.ref C) nm = some none)
    (hq : ∀ h' tk' dx, (∀ a o, a ≠ x → h0.get? a = some o → h'.get? a = some o) → h0.objs.size ≤ dx → dx ≠ x → h'.get? x = some { cls := .ref C, dict := some dx, data := .fields fv } → h'.Ns1 dx (fun y => if y = nm then some val else none) → R (.ok (.ret .none)) ⟨h', gs, dr, tk', os⟩) :
    codeAny (model P wd) A (.call (.builtin "object.__setattr__") ⟨[.ref x, .str nm tk, val], []⟩) R ⟨h0, gs, dr, tt, os⟩ := by iterate
  refine osa_down (od := none) (oo := none) hK ⟨hx, rfl, rfl, trivial⟩ hcd hrow hno ?_
  have xlt : x ≠ h0.objs.size := Nat.ne_of_lt (Heap.lt_size hx)
  have cAt : PySem.W.Looks (model P wd) h0 (classData C) cd := PySem.W.looks_clsIn hK hcd
  obtain ⟨c1, c2, c3, c4, c5, c6, c7, c8, c9, c10, c11⟩ := cd
  obtain rfl : c6 = true := hd
  unfold storeInOwnDict ownDictForStores
  repeat (first
    | with_reducible refine PySem.HandSPX.store_in_new ?_ ?_
    | with_reducible refine wpAny_loadPart_at hx ?_
    | with_reducible refine cAt.at ?_
    | wp_step)
  · have dictAt := fun fn => (Heap.get?_update_ne _ _ _ fn xlt.symm).trans (Heap.get?_push_at (h := h0) (o := { cls := .type "dict", data := .dict #[] }) rfl rfl)
    exact ⟨_, #[], _, dictAt _, rfl, fun e he => absurd he (by simp), fun _ => rfl⟩
  · intro h' tk' ns sb
    have before : (h0.push { cls := .type "dict", data := .dict #[] }).get? x = some { cls := .ref C, data := .fields fv } := Heap.get?_push_of_some _ hx
    refine hq h' tk' h0.objs.size (fun a o ha ho => ?_) (Nat.le_refl _) xlt.symm ((sb.2 x xlt).trans (Heap.get?_update_self _ before rfl)) ns
    exact (sb.2 a (Nat.ne_of_lt (Heap.lt_size ho))).trans ((Heap.get?_update_ne _ _ _ _ ha).trans (Heap.get?_push_of_some _ ho))
/-- a further field -/
theorem osa_more {dx : Addr} {m0 : Str → Option Value} {nl : List Str} (hK : K.In h0) (hx : h0.get? x = some { cls := .ref C, dict := some dx, data := .fields fv }) (hns : h0.Ns1 dx m0) (hw : Within m0 nl) (hz : nl.length ≤ 1000) (hcd : PySem.W.clsIn K C = some cd) (hrow : b.row cd.mro = true) (hd : cd.hasDict = true)
    (hno : PySem.W.findIn K (.ref C) nm = some none) (hq : ∀ h' tk', (∀ a o, a ≠ dx → h0.get? a = some o → h'.get? a = some o) → h'.Ns1 dx (fun y => if y = nm then some val else m0 y) → R (.ok (.ret .none)) ⟨h', gs, dr, tk', os⟩) :
    codeAny (model P wd) A (.call (.builtin "object.__setattr__") ⟨[.ref x, .str nm tk, val], []⟩) R ⟨h0, gs, dr, tt, os⟩ := by iterate
  obtain ⟨oD, _, _, hoD, _, _⟩ := hns.count hw
  refine osa_down (od := some dx) (oo := some oD) hK ⟨hx, rfl, rfl, hoD⟩ hcd hrow hno ?_
  have cAt : PySem.W.Looks (model P wd) h0 (classData C) cd := PySem.W.looks_clsIn hK hcd
  obtain ⟨c1, c2, c3, c4, c5, c6, c7, c8, c9, c10, c11⟩ := cd
  obtain rfl : c6 = true := hd
  unfold storeInOwnDict ownDictForStores
  repeat (first
    | with_reducible refine PySem.OEX.store_in_old hns hw hz ?_
    | with_reducible refine wpAny_loadPart_at hx ?_
    | with_reducible refine cAt.at ?_
    | wp_step)
  exact fun h' tk' ns sb => hq h' tk' (fun a o ha ho => (sb.2 a ha).trans ho) ns
end
section
variable {X : Cx} {pins : List (Addr × Obj)} {σ : L2.St} {H : Hp} {s : Shared} {a C dx : Addr} {f : Str} {y : V} {u : Value} {fs : List (Str × V)} {Q : Unit → Shared → Prop} {E : Value → Shared → Prop} {A : Around} {b : XB}
theorem exo_step {h' : Heap} {tk' : Nat} (I : Inv X pins σ H s) (e : H a = some (exo a C none)) (dn : s.heap.objs.size ≤ dx) (dne : dx ≠ a) (k : ∀ c o, c ≠ a → s.heap.get? c = some o → h'.get? c = some o) (ea : ObjOk X.prog X.w (upd (upd H dx (exd dx [(f, y)])) a (exo a C (some dx))) h' a (exo a C (some dx)))
    (ed : ObjOk X.prog X.w (upd (upd H dx (exd dx [(f, y)])) a (exo a C (some dx))) h' dx (exd dx [(f, y)])) (ex : ∃ o, h'.get? a = some o) : Inv X pins σ (upd (upd H dx (exd dx [(f, y)])) a (exo a C (some dx))) { s with heap := h', toks := tk' } := by iterate
  have hnd : H dx = none := I.hok.fresh dn
  have lt : ∀ {c : Addr} {o : Obj}, s.heap.get? c = some o → c ≠ dx := fun {c o} q => Nat.ne_of_lt (Nat.lt_of_lt_of_le (Heap.lt_size q) dn)
  have una : ∀ {c : Addr}, H c = none → c ≠ a := fun {c} n z => by subst z; rw [e] at n; cases n
  refine I.un (t' := tk') ⟨fun c o q n _ _ => k c o (una n) q, fun c o q n _ _ => ⟨o.slots, k c o (una n) q⟩, fun c o q n _ => ?_, fun c o q _ => ?_, fun c xs q => ?_, fun c o v q => ?_, fun c ps q => ⟨#[], ?_⟩⟩ fun c o q => ?_
  · rw [upd_ne (una n), upd_ne (lt q)]; exact n
  · by_cases hc : c = a
    · subst hc; exact ex
    · exact ⟨o, k c o hc q⟩
  · rw [upd_ne (at_ne e q exo_tup), upd_ne (ne_of_none q hnd)]; exact q
  · rw [upd_ne (at_ne e q exo_frz), upd_ne (ne_of_none q hnd)]; exact q
  · rw [upd_ne (at_ne e q exo_tbl), upd_ne (ne_of_none q hnd), q]; simp
  · by_cases hc : c = a
    · subst hc
      rw [upd_same] at q
      cases q
      exact ea
    · rw [upd_ne hc] at q
      by_cases hd : c = dx
      · subst hd
        rw [upd_same] at q
        cases q
        exact ed
      · rw [upd_ne hd] at q
        refine (I.hok c o q).stay (fun p v hp z => k p v ?_ z) (fun p hp => ?_) fun p xs hp => ?_
        · rcases hp with hp | hp
          · subst hp; exact hc
          · exact at_ne e hp exo_own
        · rw [upd_ne (at_ne e hp exo_own), upd_ne (ne_of_none hp hnd)]; exact hp
        · rw [upd_ne (at_ne e hp exo_tup), upd_ne (ne_of_none hp hnd)]; exact hp
theorem put_first (T : OxB X.K C b) (I : Inv X pins σ H s) (e : H a = some (exo a C none)) (hno : PySem.W.findIn X.K (.ref C) f = some none) (ry : RelV y u)
    (h : ∀ dx s', H dx = none → dx ≠ a → Inv X pins σ (upd (upd H dx (exd dx [(f, y)])) a (exo a C (some dx))) s' → Q () s') : wpAny (model X.prog X.w) A (setAttr (.ref a) f u) Q E s := by iterate
  obtain ⟨cd, c1, c2, c3⟩ := T.cd
  obtain ⟨t1, ho⟩ := exo_at I.hok e
  refine PySem.W.set_plain I.kIn (ox := { cls := .ref C, dict := none, data := .fields #[.ref t1, .none, .none, .none, .bool false, .none] }) (od := none) ⟨ho, rfl, rfl, trivial⟩ T.sa ?_
  refine osa_fresh I.kIn ho c1 c2 c3 hno fun h' tk' dx k dn dne hx hn => ?_
  exact h dx _ (I.hok.fresh dn) dne (exo_step (tk' := tk') I e dn dne k (exo_ok hx) (exd_ok hn (relO_put (fs := []) ry fun _ => trivial)) ⟨_, hx⟩)
theorem put_next (T : OxB X.K C b) (I : Inv X pins σ H s) (e : H a = some (exo a C (some dx))) (ed : H dx = some (exd dx fs)) (hl : fs.length ≤ 900) (hno : PySem.W.findIn X.K (.ref C) f = some none) (ry : RelV y u)
    (h : ∀ s', Inv X pins σ (upd H dx (exd dx ((f, y) :: fs))) s' → Q () s') : wpAny (model X.prog X.w) A (setAttr (.ref a) f u) Q E s := by iterate
  obtain ⟨cd, c1, c2, c3⟩ := T.cd
  obtain ⟨t1, ho⟩ := exo_at I.hok e
  obtain ⟨mA, hns, rel⟩ := exd_at I.hok ed
  obtain ⟨oD, _, _, hoD, _, _⟩ := hns.count (within_of rel)
  refine PySem.W.set_plain I.kIn (ox := { cls := .ref C, dict := some dx, data := .fields #[.ref t1, .none, .none, .none, .bool false, .none] }) (od := some oD) ⟨ho, rfl, rfl, hoD⟩ T.sa ?_
  refine osa_more I.kIn ho hns (within_of rel) (by rw [List.length_map]; omega) c1 c2 c3 hno fun h' tk' k hn => ?_
  have there : ∃ o, h'.get? dx = some o := let ⟨o, _, _, e', _⟩ := hn; ⟨o, e'⟩
  exact h _ (I.write (t' := tk') (x := dx) (e := dx) (o := exd dx ((f, y) :: fs)) (by rw [ed]; exact True.intro) (.inl rfl) k there (exd_ok hn (relO_put ry rel)))
/-- the base's __init__(self, ..) tells nothing -/
theorem base_init {us : List Value} {Q : Value → Shared → Prop} (T : OxB X.K C b) (I : Inv X pins σ H s) (e : H a = some (exo a C none)) (hl : us.length ≤ sizeLine) (h : ∀ s', Inv X pins σ H s' → Q .none s') :
    wpAny (model X.prog X.w) A (call (.builtin b.ini) (.ref a :: us)) Q E s := by iterate
  obtain ⟨nm, q, N, bs, bm, sn, sub, ab, col, dd, k0, k1, k2, k3, k5, hC, hb⟩ := T.cls
  obtain ⟨t1, ho⟩ := exo_at I.hok e
  refine wpAny_call (PySem.HandSPX.init_base b.facts (XB.row_has hb) (I.kIn _ _ hC) ho hl fun h' t2 k hx => ?_)
  have J := I.write (t' := s.toks) (x := a) (e := a) (o := exo a C none) (by rw [e]; exact True.intro) (.inl rfl) k ⟨_, hx⟩ (exo_ok hx)
  have same : upd H a (exo a C none) = H := funext fun c => by
    by_cases hc : c = a
    · subst hc; rw [upd_same, e]
    · rw [upd_ne hc]
  rw [same] at J
  exact h _ J
end
end DV
namespace DV
open PySem PySem.Spec PyProof.Rows L2
def vIB (K : PySem.W.Frag) : Bool := match PySem.W.findCls K (.type "IndexError") (.type "type") "__init__" with
  | some (.val (.builtin n)) => decide (n = "IndexError.__init__")
  | _ => false
theorem vIB_ok {K : PySem.W.Frag} (h : vIB K = true) : PySem.W.findCls K (.type "IndexError") (.type "type") "__init__" = some (.val (.builtin "IndexError.__init__")) := by
  unfold vIB at h
  split at h
  · rename_i n e
    rw [e, of_decide_eq_true h]
  · cases h
theorem typ_IE : typeOf (.type "IndexError") = pure (.type "type") := by kernel_rfl
def tIni (K : PySem.W.Frag) (b : XB) (ta : TA) : TE := fun σ H Q => ta σ H fun vs H1 => ∃ (a C : Addr) (ws : List V), vs = .ref a :: ws ∧ ws.length ≤ 1000 ∧ OxB K C b ∧ H1 a = some (exo a C none) ∧ Q .non H1
def tPutX (K : PySem.W.Frag) (b : XB) (f : Str) (to te : TE) : TS := fun D σ H => te σ H fun y H1 => to σ H1 fun x H2 => ∃ a C : Addr, x = .ref a ∧ OxB K C b ∧ PySem.W.findIn K (.ref C) f = some none ∧
  ((H2 a = some (exo a C none) ∧ ∀ dx, H2 dx = none → dx ≠ a → D.nx σ (upd (upd H2 dx (exd dx [(f, y)])) a (exo a C (some dx)))) ∨
    ∃ (dx : Addr) (fs : List (Str × V)), H2 a = some (exo a C (some dx)) ∧ H2 dx = some (exd dx fs) ∧ fs.length ≤ 900 ∧ D.nx σ (upd H2 dx (exd dx ((f, y) :: fs))))
/-- B.__init__, B an own class that has the base's -/
structure XeB (K : PySem.W.Frag) (B : Addr) (b : XB) : Prop where
  rd : PySem.W.readsIn K B (.type "type") = true
  ga : PySem.W.specialIn K (.ref B) "__getattribute__" = some (some (.builtin "type.__getattribute__"))
  at_ : PySem.W.findCls K (.ref B) (.type "type") "__init__" = some (.val (.builtin b.ini))
def xeBB (K : PySem.W.Frag) (B : Addr) (b : XB) : Bool := PySem.W.readsIn K B (.type "type") && (He.eqO (PySem.W.specialIn K (.ref B) "__getattribute__") (some (some (.builtin "type.__getattribute__"))) && (match PySem.W.findCls K (.ref B) (.type "type") "__init__" with
  | some (.val (.builtin n)) => decide (n = b.ini)
  | _ => false))
theorem xeBB_ok {K : PySem.W.Frag} {B : Addr} {b : XB} (h : xeBB K B b = true) : XeB K B b := by
  obtain ⟨h1, h2⟩ := He.ba h
  obtain ⟨h3, h4⟩ := He.ba h2
  refine ⟨h1, He.eqO_ok h3, ?_⟩
  split at h4
  · rename_i n e
    rw [e, of_decide_eq_true h4]
  · cases h4
def oxBB (K : PySem.W.Frag) (C : Addr) (b : XB) : Bool := (match K.lookup C with
  | some ⟨.type t, _, .cls cd, sl⟩ => (match cd.mro, sl.toList with
    | .ref C' :: bm, [_, _, _, _, some (.builtin n), _] => decide (t = "type") && (decide (C' = C) && (decide (n = b.nw) && (!cd.hasDel && (cd.hasDict && b.row bm))))
    | _, _ => false)
  | _ => false) && (He.eqO (PySem.W.findIn K (.ref C) "__setattr__") (some (some (.builtin "object.__setattr__"))) && (decide (PySem.W.subIn K (.ref C) (.type "BaseException") = some true) && (decide (PySem.W.typeIn K (.ref C) = some (.type "type")) && PySem.W.keepIn K (.ref C))))
theorem oxBB_ok {K : PySem.W.Frag} {C : Addr} {b : XB} (h : oxBB K C b = true) : OxB K C b := by iterate
  obtain ⟨q, h2⟩ := He.ba h
  obtain ⟨h3, h4⟩ := He.ba h2
  obtain ⟨h5, h6⟩ := He.ba h4
  obtain ⟨h7, h8⟩ := He.ba h6
  refine ⟨?_, He.eqO_ok h3, of_decide_eq_true h5, of_decide_eq_true h7, h8⟩
  split at q
  · rename_i t dd cd sl ho
    split at q
    · rename_i C' bm k0 k1 k2 k3 n k5 hm hs
      obtain ⟨a1, a2⟩ := He.ba q
      obtain ⟨a3, a4⟩ := He.ba a2
      obtain ⟨a5, a6⟩ := He.ba a4
      obtain ⟨a7, a8⟩ := He.ba a6
      obtain ⟨a9, a10⟩ := He.ba a8
      have a1 := of_decide_eq_true a1
      have a3 := of_decide_eq_true a3
      have a5 := of_decide_eq_true a5
      subst a1 a3 a5
      obtain ⟨nm, bs, mro, ns, qn, hd, sn, sub, ab, col, del⟩ := cd
      dsimp only at hm a7 a9
      obtain rfl : del = false := by simpa using a7
      subst hm a9
      have hsl : sl = #[k0, k1, k2, k3, some (.builtin b.nw), k5] := by
        obtain ⟨l⟩ := sl
        simp only at hs
        rw [hs]
      subst hsl
      exact ⟨nm, qn, ns, bs, bm, sn, sub, ab, col, dd, k0, k1, k2, k3, k5, ho, a10⟩
    · cases q
  · cases q
structure ExcX (K : PySem.W.Frag) (C : Addr) (b : XB) (fs : List Str) : Prop where
  ox : OxB K C b
  no : ∀ f ∈ ("code" : Str) :: fs, PySem.W.findIn K (.ref C) f = some none
def excXB (K : PySem.W.Frag) (C : Addr) (b : XB) (fs : List Str) : Bool := oxBB K C b && (("code" : Str) :: fs).all fun f => He.eqO (PySem.W.findIn K (.ref C) f) (some none)
theorem excXB_ok {K : PySem.W.Frag} {C : Addr} {b : XB} {fs : List Str} (h : excXB K C b fs = true) : ExcX K C b fs := by
  obtain ⟨h1, h2⟩ := He.ba h
  exact ⟨oxBB_ok h1, fun f hf => He.eqO_ok (List.all_eq_true.mp h2 f hf)⟩
section
variable {X : Cx} {o e : Expr} {es : List Expr} {ta : TA} {to te : TE} {B f : Str} {CB : Addr} {b : XB} {p p' p1 p2 pos : Pos}
theorem pe_iniX {pl : Sem Bool} (hg : Gl X B) (hm : X.mg B = some (.ref CB)) (V : XeB X.K CB b) (ha : PA X (e :: es) ta) (hdb : (B == ("__debug__" : Str)) = false)
    (hc : eval (.Call (.Attribute (.Name B p1) "__init__" p2) (e :: es) [] pos) X.env = (do
      let ov ← eval (.Name B p1) X.env
      standAt p2.atName
      let (f, first) ← holding [ov] (getMethod ov "__init__" pl)
      callWith pos f first (backTo pos (starEach (e :: es) X.env)) (backToKw pos (keywordEach [] X.env))))
    (he : starEach (e :: es) X.env = (false, eval e X.env) :: starEach es X.env) (hpl : (backTo pos (starEach es X.env)).any (·.1) = false) :
    PE X (.Call (.Attribute (.Name B p1) "__init__" p2) (e :: es) [] pos) (tIni X.K b ta) := by iterate
  refine ⟨fun pins s σ H Q I h => PySem.W.methodCall_KW (ld_glob I hg hm ?_ hdb) hc⟩
  refine PySem.W.method_cls I.kIn V.ga (PySem.W.cls_value I.kIn V.rd V.at_ (by cases b <;> rfl) ?_)
  show wpAny _ _ (callWith pos (Value.builtin b.ini) [] (backTo pos (starEach (e :: es) X.env)) []) _ _ _
  refine PyProof.Rows.callWith_method1 (thn (ha.run pos pins _ σ H _ (I.tok _) h) fun us s1 ⟨vs, H1, I1, r1, a, C, ws, ev, hl, T, ea, q⟩ => ?_) he hpl
  subst ev
  cases r1 with
  | @cons _ u0 _ ur ra rr =>
    obtain rfl : u0 = Value.ref a := ra
    exact base_init T I1 ea (by rw [← Paired.length rr, sizeLine_eq]; omega) fun s' J => ⟨.non, H1, J, rfl, q⟩
theorem pe_iniIE {pl : Sem Bool} (hg : Gl X "IndexError") (hm : X.mg "IndexError" = none) (ha : PA X (e :: es) ta)
    (hc : eval (.Call (.Attribute (.Name "IndexError" p1) "__init__" p2) (e :: es) [] pos) X.env = (do
      let ov ← eval (.Name "IndexError" p1) X.env
      standAt p2.atName
      let (f, first) ← holding [ov] (getMethod ov "__init__" pl)
      callWith pos f first (backTo pos (starEach (e :: es) X.env)) (backToKw pos (keywordEach [] X.env))))
    (vI : PySem.W.findCls X.K (.type "IndexError") (.type "type") "__init__" = some (.val (.builtin "IndexError.__init__")))
    (he : starEach (e :: es) X.env = (false, eval e X.env) :: starEach es X.env) (hpl : (backTo pos (starEach es X.env)).any (·.1) = false) :
    PE X (.Call (.Attribute (.Name "IndexError" p1) "__init__" p2) (e :: es) [] pos) (tIni X.K .ie ta) := by iterate
  refine ⟨fun pins s σ H Q I h => PySem.W.methodCall_KW (ld_blt I hg hm PyProof.Rows.Boot.«IndexError» ?_ (by decide) (by decide)) hc⟩
  obtain ⟨m, fr⟩ := I.fr
  refine PySem.W.method_type fr I.ok.mod.kin typ_IE (by decide +kernel) vI (by decide +kernel) ?_
  show wpAny _ _ (callWith pos (Value.builtin "IndexError.__init__") [] (backTo pos (starEach (e :: es) X.env)) []) _ _ _
  refine PyProof.Rows.callWith_method1 (thn (ha.run pos pins _ σ H _ (I.tok _) h) fun us s1 ⟨vs, H1, I1, r1, a, C, ws, ev, hl, T, ea, q⟩ => ?_) he hpl
  subst ev
  cases r1 with
  | @cons _ u0 _ ur ra rr =>
    obtain rfl : u0 = Value.ref a := ra
    exact base_init (b := .ie) T I1 ea (by rw [← Paired.length rr, sizeLine_eq]; omega) fun s' J => ⟨.non, H1, J, rfl, q⟩
theorem ps_putX (ho : PE X o to) (he : PE X e te) (hs : swapsWith e (some (.Attribute o f p')) pos.line X.env = pure false) : PS X (.Assign [.Attribute o f p'] e pos) (tPutX X.K b f to te) := by iterate
  refine ⟨fun pins s σ H D I h => plainObj_wpAny_Assign_Attribute (thn (he.run pins s σ H _ I h) fun v s1 ⟨y, H1, I1, r1, q1⟩ => thn (ho.run pins s1 σ H1 _ I1 q1) fun u s2 ⟨x, H2, I2, r2, a, C, ex, T, hno, q⟩ => ?_) hs⟩
  subst ex
  obtain rfl : u = Value.ref a := r2
  rcases q with ⟨ea, q⟩ | ⟨dx, fs, ea, ed, hl, q⟩
  · exact put_first T I2 ea hno r1 fun dx s' n ne J => ⟨σ, _, J, q dx n ne⟩
  · exact put_next T I2 ea ed hl hno r1 fun s' J => ⟨σ, _, J, q⟩
end
section
variable {K : PySem.W.Frag} {C : Addr} {b : XB} {code f g : Str} {vs : List V} {H : Hp} {D : Ends} {E : XK} {p q : Str}
abbrev tX0 (K : PySem.W.Frag) (b : XB) (code : Str) : TS := tSeq (tDrop (tIni K b (tCons (tVar 0) (tCons (tC (.str code)) tNil)))) (tPutX K b "code" (tVar 0) (tC (.str code)))
abbrev tX1 (K : PySem.W.Frag) (b : XB) (code f : Str) : TS := tSeq (tDrop (tIni K b (tCons (tVar 0) (tCons (tC (.str code)) tNil)))) (tSeq (tPutX K b "code" (tVar 0) (tC (.str code))) (tPutX K b f (tVar 0) (tVar 1)))
abbrev tX2 (K : PySem.W.Frag) (b : XB) (code f g : Str) : TS := tSeq (tDrop (tIni K b (tCons (tVar 0) (tCons (tC (.str code)) tNil)))) (tSeq (tPutX K b "code" (tVar 0) (tC (.str code))) (tSeq (tPutX K b f (tVar 0) (tVar 1)) (tPutX K b g (tVar 0) (tVar 2))))
theorem x0_ok (T : ExcX K C b []) (h : spX C code [] vs H D.rt E) (hD : ∀ σ H', D.rt .non H' → D.nx σ H') : tX0 K b code D (L2.start ["self"] vs) H := by iterate
  obtain ⟨hl, a, ws, rfl, ea, fin⟩ := h
  match ws, hl with
  | [], _ =>
    refine ⟨.ref a, rfl, a, C, [.str code], rfl, Nat.le_of_ble_eq_true rfl, T.ox, ea, .ref a, rfl, a, C, rfl, T.ox, T.no _ (List.mem_cons_self ..), .inl ⟨ea, fun d nd ne => ?_⟩⟩
    refine hD _ _ (fin d _ nd ne upd_same ?_ fun c n1 n2 => ?_)
    · rw [upd_ne ne, upd_same]; rfl
    · rw [upd_ne n1, upd_ne n2]
  | _ :: _, hl => exact absurd hl (by simp)
theorem x1_ok (T : ExcX K C b [f]) (h : spX C code [f] vs H D.rt E) (hD : ∀ σ H', D.rt .non H' → D.nx σ H') : tX1 K b code f D (L2.start ["self", p] vs) H := by iterate
  obtain ⟨hl, a, ws, rfl, ea, fin⟩ := h
  match ws, hl with
  | [y], _ =>
    refine ⟨.ref a, rfl, a, C, [.str code], rfl, Nat.le_of_ble_eq_true rfl, T.ox, ea, .ref a, rfl, a, C, rfl, T.ox, T.no _ (List.mem_cons_self ..), .inl ⟨ea, fun d nd ne => ?_⟩⟩
    refine ⟨y, rfl, .ref a, rfl, a, C, rfl, T.ox, T.no _ (List.mem_cons_of_mem _ (List.mem_cons_self ..)), .inr ⟨d, [("code", .str code)], upd_same, (upd_ne ne).trans upd_same, Nat.le_of_ble_eq_true rfl, ?_⟩⟩
    refine hD _ _ (fin d _ nd ne ((upd_ne (Ne.symm ne)).trans upd_same) upd_same fun c n1 n2 => ?_)
    rw [upd_ne n2, upd_ne n1, upd_ne n2]
  | [], hl => exact absurd hl (by simp)
  | _ :: _ :: _, hl => exact absurd hl (by simp)
theorem x2_ok (T : ExcX K C b [f, g]) (h : spX C code [f, g] vs H D.rt E) (hD : ∀ σ H', D.rt .non H' → D.nx σ H') : tX2 K b code f g D (L2.start ["self", p, q] vs) H := by iterate
  obtain ⟨hl, a, ws, rfl, ea, fin⟩ := h
  match ws, hl with
  | [y, z], _ =>
    refine ⟨.ref a, rfl, a, C, [.str code], rfl, Nat.le_of_ble_eq_true rfl, T.ox, ea, .ref a, rfl, a, C, rfl, T.ox, T.no _ (List.mem_cons_self ..), .inl ⟨ea, fun d nd ne => ?_⟩⟩
    refine ⟨y, rfl, .ref a, rfl, a, C, rfl, T.ox, T.no _ (List.mem_cons_of_mem _ (List.mem_cons_self ..)), .inr ⟨d, [("code", .str code)], upd_same, (upd_ne ne).trans upd_same, Nat.le_of_ble_eq_true rfl, ?_⟩⟩
    refine ⟨z, rfl, .ref a, rfl, a, C, rfl, T.ox, T.no _ (List.mem_cons_of_mem _ (List.mem_cons_of_mem _ (List.mem_cons_self ..))), .inr ⟨d, [(f, y), ("code", .str code)], (upd_ne (Ne.symm ne)).trans upd_same, upd_same, Nat.le_of_ble_eq_true rfl, ?_⟩⟩
    refine hD _ _ (fin d _ nd ne ((upd_ne (Ne.symm ne)).trans ((upd_ne (Ne.symm ne)).trans upd_same)) upd_same fun c n1 n2 => ?_)
    rw [upd_ne n2, upd_ne n2, upd_ne n1, upd_ne n2]
  | [], hl => exact absurd hl (by simp)
  | [_], hl => exact absurd hl (by simp)
  | _ :: _ :: _ :: _, hl => exact absurd hl (by simp)
end
end DV
namespace DV
open PySem PySem.Spec PyProof.Rows L2
end DV
namespace DV
open PySem PySem.Spec PyProof.Rows L2
end DV
namespace DV
open PySem PySem.Spec PyProof.Rows L2
end DV
namespace DV
open PySem PySem.Spec PyProof.Rows L2
def revS (z : Str) : Str := ⟨z.cps.toList.reverse.toArray⟩
section
variable {X : Cx} {Γ : Gm} {W : WX}
def oRev : D → Option Rv
  | .lst xs => some (.fr (.lst xs.reverse))
  | .kl xs => some (.fr (.lst xs.reverse))
  | .str z => if z.length ≤ sizeLine then some (.d (.str (revS z))) else none
  | _ => none
theorem RepL.snoc {R : List Addr} {F : Hp} : ∀ {xs : List D} {ys : List V} {x : D} {y : V}, RepL Γ R F xs ys → Rep Γ R F x y → RepL Γ R F (xs ++ [x]) (ys ++ [y])
  | [], ys, x, y, h, q => by
    rw [RepL] at h
    subst h
    rw [List.nil_append, List.nil_append, RepL]
    exact ⟨y, [], rfl, q, by rw [RepL]⟩
  | a :: xs, ys, x, y, h, q => by
    rw [RepL] at h
    obtain ⟨b, r, e, p, l⟩ := h
    subst e
    rw [List.cons_append, List.cons_append, RepL]
    exact ⟨b, r ++ [y], rfl, p, RepL.snoc l q⟩
def cRev (c : M Rv) : M Rv := fun ρ S => (c ρ S).bind fun r ρ S => match cont ρ S r with
  | some d => lift (oRev d) ρ S
  | none => .bad
variable {ρ S : List Sl} {E : XQ} {QR : Rv → List Sl → List Sl → Prop} {P : Rv → Prop}
theorem wp_rev {c : M Rv} (h : wp c ρ S (fun r ρ S => wC r ρ S fun d => wO (oRev d) fun r => QR r ρ S) E) : wp (cRev c) ρ S QR E :=
  wr_bind (wr_cons h (fun _ _ _ ⟨d, e, h⟩ => by simp only [e]; exact wr_lift h) fun _ _ _ h => h)
theorem wO_rev_lst {xs : List D} (h : P (.fr (.lst xs.reverse))) : wO (oRev (.lst xs)) P := ⟨_, rfl, h⟩
theorem wO_rev_kl {xs : List D} (h : P (.fr (.lst xs.reverse))) : wO (oRev (.kl xs)) P := ⟨_, rfl, h⟩
end
end DV
namespace DV
open PySem PySem.Spec PyProof.Rows L2
section
variable {X : Cx} {Γ : Gm} {w : Wd}
theorem RepK.len {R : List Addr} {F : Hp} : ∀ {xs : List (Key × D)} {ys : List (Key × V)}, RepK Γ R F xs ys → xs.length = ys.length
  | [], ys, h => by rw [RepK] at h; subst h; rfl
  | (k, x) :: xs, ys, h => by
    rw [RepK] at h
    obtain ⟨y, r, e, _, l⟩ := h
    subst e
    rw [List.length_cons, List.length_cons, RepK.len l]
end
end DV
namespace DV
open PySem PySem.Spec PyProof.Rows L2
end DV
namespace DV
open PySem PySem.Spec PyProof.Rows L2
end DV
namespace DV
open PySem PySem.Spec PyProof.Rows L2
end DV
namespace DV
open PySem PySem.Spec PyProof.Rows L2
end DV
namespace DV
open PySem PySem.Spec PyProof.Rows L2
end DV
namespace DV
open PySem PySem.Spec PyProof.Rows L2
end DV
namespace DV
open PySem PySem.Spec PyProof.Rows L2
end DV
namespace DV
open PySem PySem.Spec PyProof.Rows L2
end DV
namespace DV
open PySem PySem.Spec PyProof.Rows L2
end DV
namespace DV
open PySem PySem.Spec PyProof.Rows L2
end DV
namespace DV
open PySem PySem.Spec PyProof.Rows L2
end DV
namespace DV
open PySem PySem.Spec PyProof.Rows L2
end DV
namespace DV
open PySem PySem.Spec PyProof.Rows L2
end DV
namespace DV
open PySem PySem.Spec PyProof.Rows L2
end DV
namespace DV
open PySem PySem.Spec PyProof.Rows L2
section
variable {X : Cx} {Γ : Gm} {W : WX} {P : List Nat} {cc Dc g : Addr} {sf m : Str} {body : List Stmt} {p0 p1 apos pos pos2 : Pos} {e : Expr} {es : List Expr} {rest : List Stmt} {k n c np : Nat} {fd : FuncData} {ps : List Str} {mm : List D → List Sl → Res Rv} {cs : M (List D)} {cr : M Fl} {pl : Sem Bool}
theorem CKl.mono {w : Wd} {σ : L2.St} {Q Q' : List V → Hp → Prop} {r : Res (List D)} (h : CKl Γ W w σ Q r) (k : ∀ vs H, Q vs H → Q' vs H) : CKl Γ W w σ Q' r := by
  cases r with
  | ok ds ρ S t => exact fun w' vs a b c d => k _ _ (h w' vs a b c d)
  | ex y ρ S => exact h
  | bad => exact h
end
end DV
namespace DV
open PySem PySem.Spec PyProof.Rows L2
/-- a def's parts, its cells aside -/
def fnZ (K : PySem.W.Frag) (a : Addr) : He.FnW := match K.lookup a with
  | some ⟨_, _, .func fd, _⟩ => some (fd.name, fd.qualname, fd.params, fd.body, fd.scope, fd.globals, [], fd.builtins)
  | _ => none
structure DefQ where
  at_ : PySem.W.Frag → Addr
  name : Str
  qual : Str
  params : Arguments
  body : List Stmt
  scope : Scope
def DefQ.val (d : DefQ) : He.FnW := some (d.name, d.qual, d.params, .stmts d.body, d.scope, mainGlobals, [], builtinsNs)
def SaysQ (sn : List DefQ) (K : PySem.W.Frag) : Prop := sn.map (fun d => fnZ K (d.at_ K)) = sn.map DefQ.val
theorem SaysQ.fn {sn : List DefQ} {K : PySem.W.Frag} (c : SaysQ sn K) (i : Nat) {d : DefQ} (h : sn[i]? = some d) : fnZ K (d.at_ K) = d.val := by
  have z := congrArg (fun l => l[i]?) c
  simp only [List.getElem?_map, h, Option.map_some] at z
  exact Option.some.inj z
end DV
namespace DV
open PySem PySem.Spec PyProof.Rows L2
end DV
namespace DV
open PySem PySem.Spec PyProof.Rows L2
end DV
namespace DV
open PySem PySem.Spec PyProof.Rows L2
end DV
namespace DV
open PySem PySem.Spec PyProof.Rows L2
end DV
namespace DV
open PySem PySem.Spec PyProof.Rows L2
end DV
namespace DV
open PySem PySem.Spec PyProof.Rows L2
end DV
namespace DV
open PySem PySem.Spec PyProof.Rows L2
end DV
namespace DV
open PySem PySem.Spec PyProof.Rows L2
section
variable {X : Cx} {Γ : Gm} {W : WX} {P : List Nat} {x : Str} {p pos apos spos npos : Pos} {a b e o : Expr} {es : List Expr} {kws : List Keyword} {c ca cb co : M Rv} {cs ck : M (List D)} {cr : M (List Rv)} {m : List D → List Sl → Res Rv} {gD : List D → List D → List D} {k n z i : Nat} {f : Addr} {fd : FuncData} {ps : List Str}
theorem nA (i : Nat) {x : Str} {pos : Pos} (hN : X.N[i]? = some x := by exact rfl) (hv : X.env.scope.names.lookup x = some .local := by exact rfl) (hd : (x == ("__debug__" : Str)) = false := by decide) (hcd : (x == ("__classdict__" : Str)) = false := by decide) : PE X (.Name x pos) (tM Γ W (cName i)) := pm_name i hN (.inl hv) hd hcd
theorem nB (i : Nat) {x : Str} {pos : Pos} (hN : X.N[i]? = some x := by exact rfl) (hv : X.env.scope.names.lookup x = some .cell := by exact rfl) (hd : (x == ("__debug__" : Str)) = false := by decide) (hcd : (x == ("__classdict__" : Str)) = false := by decide) : PE X (.Name x pos) (tM Γ W (cName i)) := pm_name i hN (.inr (.inl hv)) hd hcd
theorem pmaC (ha : PE X e (tM Γ W c)) (hr : PA X es (tMl Γ W cs)) (hs : starEach (e :: es) X.env = (false, eval e X.env) :: starEach es X.env := by exact rfl) : PA X (e :: es) (tMl Γ W (cConsD c cs)) := pma_cons ha hr hs
theorem pma1 (ha : PE X e (tM Γ W c)) (hs : starEach [e] X.env = (false, eval e X.env) :: starEach [] X.env := by exact rfl) : PA X [e] (tMl Γ W (cConsD c cNilD)) := pma_cons ha pma_nil hs
theorem pmr1 (ha : PE X e (tM Γ W c)) (hs : starEach [e] X.env = (false, eval e X.env) :: starEach [] X.env := by exact rfl) : PA X [e] (tMr Γ W (cConsR c cNilR)) := pmr_cons ha pmr_nil hs
theorem pgA (i : Nat) {x : Str} {pos : Pos} (hN : X.N.Nodup) (hi : X.N[i]? = some x := by exact rfl) (hx : X.env.scope.names.lookup x = some .local := by exact rfl) (hf : X.fn x = true := by exact rfl) : PG X (.Name x pos) (gName i) := pg_name hN hi (.inl hx) (.inl hf)
theorem pgB (i : Nat) {x : Str} {pos : Pos} (hN : X.N.Nodup) (hi : X.N[i]? = some x := by exact rfl) (hx : X.env.scope.names.lookup x = some .local := by exact rfl) : PG X (.Name x pos) (gName i) := pg_name hN hi (.inl hx) (.inr hx)
theorem ixA (hu : X.A.units + 1 < cLine) (ha : PE X a (tM Γ W ca)) (hb : PE X b (tM Γ W cb)) (hK : X.K = Γ.K := by exact rfl) (hs : PlainIx b := by exact fun _ _ => rfl) : PE X (.Subscript a b pos) (tM Γ W (cBin oGet ca cb)) := pm_ix (ixAll hu) (hK ▸ bGet) ha hb hs
theorem setA {x : Str} {e : Expr} {c : M Rv} {own : Bool} {i : Nat} {pos npos : Pos} (he : PE X e (tM Γ W c)) (hN : X.N.Nodup) (hp : i ∉ P := by decide) (hi : X.N[i]? = some x := by exact rfl) (hx : X.env.scope.names.lookup x = some .local := by exact rfl) (hf : X.fn x = true := by exact rfl)
    (hs : swapsWithSole [.Name x npos] e pos.line X.env = pure false := by exact rfl) (hw : swappedStores [.Name x npos] e X.env = pure none := by exact rfl) : PS X (.Assign [.Name x npos] e pos) (tS Γ W P (cSet own i c)) := pms_set he hp hN hi (.inl hx) (.inl hf) hs hw
theorem setB {x : Str} {e : Expr} {c : M Rv} {own : Bool} {i : Nat} {pos npos : Pos} (he : PE X e (tM Γ W c)) (hN : X.N.Nodup) (hp : i ∉ P := by decide) (hi : X.N[i]? = some x := by exact rfl) (hx : X.env.scope.names.lookup x = some .cell := by exact rfl) (hf : X.fn x = true := by exact rfl)
    (hs : swapsWithSole [.Name x npos] e pos.line X.env = pure false := by exact rfl) (hw : swappedStores [.Name x npos] e X.env = pure none := by exact rfl) : PS X (.Assign [.Name x npos] e pos) (tS Γ W P (cSet own i c)) := pms_set he hp hN hi (.inr hx) (.inl hf) hs hw
theorem clA (F : FnOk X.prog X.w X.K X.mg X.base (L2.CX X.prog X.w) k f fd ps (spM Γ ps.length m)) (hr : Room z X.A) (hm : X.mg x = some (.ref f)) (hk : PySem.W.keepIn X.K (.ref f) = true) (hb : CallB Γ X.K fd ps n [] gD) (tk : Takes X W) (ha : PA X (e :: es) (tMl Γ W cs))
    (hz : k ≤ z := by decide) (hg : Gl X x := by exact rfl) (hall : (backToKw pos (keywordEach [] X.env)).all (·.1.isSome) = true := by exact rfl) (hks : (backToKw pos (keywordEach [] X.env)).filterMap (·.1) = [] := by exact rfl)
    (hdb : (x == ("__debug__" : Str)) = false := by decide) (he : starEach (e :: es) X.env = (false, eval e X.env) :: starEach es X.env := by exact rfl)
    (hpl : ((backTo pos (starEach (e :: es) X.env)).any (·.1) || (backToKw pos (keywordEach [] X.env)).any (·.1.isNone)) = false := by exact rfl) :
    PE X (.Call (.Name x p) (e :: es) [] pos) (tM Γ W (cCall m n 0 gD cs cNilD)) := pm_callJ [] rfl F (hr.mono hz) hg hm hk hb tk ha pmk_nil hall hks hdb he hpl
theorem blA {x : Str} {id : String} {g : List D → Option Rv} {r : List V → Hp → VK → Prop} {p : Pos} (hc : CallR X (.builtin id) r) (ok : CallOk Γ g r) (hm : X.mg x = none) (ha : PA X (e :: es) (tMr Γ W cr)) (hg : Gl X x := by exact rfl) (hv : bootBuiltins x = some (.builtin id) := by exact rfl)
    (he : starEach (e :: es) X.env = (false, eval e X.env) :: starEach es X.env := by exact rfl) (hpl : (backTo pos (starEach es X.env)).any (·.1) = false := by exact rfl) (hn : x ≠ "__name__" := by decide) (hdb : (x == ("__debug__" : Str)) = false := by decide) : PE X (.Call (.Name x p) (e :: es) [] pos) (tM Γ W (cBlt g cr)) := pm_blt hc ok hg hm hv ha he hpl hn hdb
theorem tyA {x : Str} {T : String} {g : List D → Option Rv} {r : List V → Hp → VK → Prop} {p : Pos} (hc : CallR X (.type T) r) (ok : CallOk Γ g r) (hm : X.mg x = none) (ha : PA X (e :: es) (tMr Γ W cr)) (hg : Gl X x := by exact rfl) (hv : bootBuiltins x = some (.type T) := by exact rfl)
    (he : starEach (e :: es) X.env = (false, eval e X.env) :: starEach es X.env := by exact rfl) (hpl : (backTo pos (starEach es X.env)).any (·.1) = false := by exact rfl) (hn : x ≠ "__name__" := by decide) (hdb : (x == ("__debug__" : Str)) = false := by decide) : PE X (.Call (.Name x p) (e :: es) [] pos) (tM Γ W (cBlt g cr)) := pm_ty hc ok hg hm hv ha he hpl hn hdb
theorem teA (h : PE X e (tM Γ W ca)) (hK : Γ.K = X.K := by exact rfl) (he : ∀ whole, isTrue e X.env whole = (do let v ← whole; standAt e.pos; holding [v] (truthy v)) := by exact fun _ => rfl) : PT X e (tMb Γ W (cTru ca)) := pm_test hK h he
theorem eqT (hu : X.A.units + 64 < cLine) (ha : PE X a (tM Γ W ca)) (hb : PE X b (tM Γ W cb)) (hK : X.K = Γ.K := by exact rfl) : PT X (.Compare a [.Eq] [b] pos) (tMb Γ W (cTst (cBin (oEq false) ca cb))) := pmt_cmp (opEq hu) (hK ▸ bEq) ha hb (nomark _)
theorem neT (hu : X.A.units + 64 < cLine) (ha : PE X a (tM Γ W ca)) (hb : PE X b (tM Γ W cb)) (hK : X.K = Γ.K := by exact rfl) : PT X (.Compare a [.NotEq] [b] pos) (tMb Γ W (cTst (cBin (oEq true) ca cb))) := pmt_cmp (opNe hu) (hK ▸ bNe) ha hb (nomark _)
theorem inT (hu : X.A.units + 1 < cLine) (ha : PE X a (tM Γ W ca)) (hb : PE X b (tM Γ W cb)) (hK : X.K = Γ.K := by exact rfl) (hm : behindInMarks .In b = false := by with_unfolding_all rfl) : PT X (.Compare a [.In] [b] pos) (tMb Γ W (cTst (cBin (oIn false) ca cb))) := pmt_cmp (opIn hu) (hK ▸ bIn) ha hb hm
end
section
variable {X : Cx} {Γ : Gm} {W : WX} {P : List Nat} {elt tg iter : Expr} {body : List Stmt} {ci : M Src} {cd : M (List D)} {b : M Fl} {c : M Rv} {tt : M Bool} {g : Tgt} {t : TG} {pos : Pos} {f : Nat → D → D} {scope : Scope} {own : List (Str × Nat)} {ifs : List Expr}
theorem frA (hp : PassesOwn (model X.prog X.w) X.A X.env X.xe) (hi : PI X tg iter (tI Γ W cd)) (hg : PG X tg t) (ht : TgOk Γ t g) (hb : PSs X body (tS Γ W P b)) (hc : X.calm = true := by exact rfl) (hP : ∀ j ∈ P, j ∉ g.slots := by decide) (hs : ∀ x, foldedSetIterable iter X.env x = pure x := by exact fun _ => rfl) :
    PS X (.For tg iter body [] pos) (tS Γ W P (cFor cd g b)) := pms_for hp hc hi hg ht hP hb hs
theorem lcA (hN : X.N.Nodup) (hi : PI X tg iter (tI Γ W cd)) (ok : BlkOk X.N X.env.scope scope own) (ht : TgOk Γ t g)
    (hg : ∀ (s : Shared) (H : Hp) (C : Addr) (cl : List (Str × Addr)) (fp : List Addr), PG (X.blk s H scope (compEnvC scope cl C X.env) fp) tg t)
    (he : ∀ (s : Shared) (H : Hp) (C : Addr) (cl : List (Str × Addr)) (fp : List Addr), PE (X.blk s H scope (compEnvC scope cl C X.env) fp) elt (tM Γ W0 c)) (hc : X.calm = true := by exact rfl) (hv : ∀ j ∈ g.slots, j ∈ own.map (·.2) := by decide) (hs : ∀ x, foldedSetIterable iter X.env x = pure x := by exact fun _ => rfl) :
    PE X (.ListComp elt [⟨tg, iter, [], 0⟩] scope pos) (tM Γ W (cLc cd (own.map (·.2)) g cYes c)) := pm_lc hc hN hi ok ht hv hg (fun _ _ _ _ _ => pms_yes) he hs
theorem loA (hN : X.N.Nodup) (hi : PI X tg iter (tIO Γ W f ci)) (ok : BlkOk X.N X.env.scope scope own) (ht : TgOk Γ t g)
    (hg : ∀ (s : Shared) (H : Hp) (C : Addr) (cl : List (Str × Addr)) (fp : List Addr), PG (X.blk s H scope (compEnvC scope cl C X.env) fp) tg t)
    (he : ∀ (s : Shared) (H : Hp) (C : Addr) (cl : List (Str × Addr)) (fp : List Addr), PE (X.blk s H scope (compEnvC scope cl C X.env) fp) elt (tM Γ W0 c)) (hc : X.calm = true := by exact rfl) (hv : ∀ j ∈ g.slots, j ∈ own.map (·.2) := by decide) (hs : ∀ x, foldedSetIterable iter X.env x = pure x := by exact fun _ => rfl) :
    PE X (.ListComp elt [⟨tg, iter, [], 0⟩] scope pos) (tM Γ W (cLcO f ci (own.map (·.2)) g cYes c)) := pm_lcO hc hN hi ok ht hv hg (fun _ _ _ _ _ => pms_yes) he hs
end
end DV
namespace DV
open PySem PySem.Spec PyProof.Rows L2
end DV
namespace DV
open PySem PySem.Spec PyProof.Rows L2
theorem ceL_app {ce own : List (Str × Addr)} {x : Str} {b : Addr} (h : ce.lookup x = some b) : (ce ++ own).lookup x = some b := by
  induction ce with
  | nil => cases h
  | cons p ce ih =>
    obtain ⟨k, v⟩ := p
    rw [List.cons_append, List.lookup_cons]
    rw [List.lookup_cons] at h
    cases q : (x == k) with
    | true => rw [q] at h; exact h
    | false => rw [q] at h; exact ih h
theorem clo_eq {a b : List (Str × Addr)} : ∀ {names : List (Str × NameKind)} {acc : List (Str × Addr)}, (∀ y ∈ names, y.2 = .free → b.lookup y.1 = a.lookup y.1) → cloFrom b names acc = cloFrom a names acc
  | [], _, _ => rfl
  | (n, k) :: r, acc, h => by
    unfold cloFrom
    split
    · rename_i hk
      have e := h (n, k) List.mem_cons_self (by simpa using hk)
      rw [show b.lookup n = a.lookup n from e]
      exact clo_eq fun y hy => h y (List.mem_cons_of_mem _ hy)
    · exact clo_eq fun y hy => h y (List.mem_cons_of_mem _ hy)
theorem LamI.Full.app {L : LamI} {ce own : List (Str × Addr)} (h : L.Full ce) : L.Full (ce ++ own) := fun y hy e => let ⟨b, z⟩ := h y hy e; ⟨b, ceL_app z⟩
theorem LamI.Full.obj {L : LamI} {ce own : List (Str × Addr)} (h : L.Full ce) (pm : Value) (c : Addr) (ct : Value) : L.obj (ce ++ own) pm c ct = L.obj ce pm c ct := by
  show PySem.W.kla_obj _ _ _ _ _ (cloFrom (ce ++ own) L.scope.names []) _ _ _ = PySem.W.kla_obj _ _ _ _ _ (cloFrom ce L.scope.names []) _ _ _
  rw [clo_eq (a := ce) fun y hy e => let ⟨b, z⟩ := h y hy e; by rw [ceL_app z, z]]
/-- the same names, more cells -/
abbrev Gm.more (Γ : Gm) (own : List (Str × Addr)) : Gm := ⟨Γ.K, Γ.cA, Γ.lam, Γ.cel ++ own, Γ.tb⟩
section
variable {Γ : Gm} {R R' : List Addr} {F F' : Hp} {own : List (Str × Addr)}
mutual
theorem Rep.to : ∀ (d : D) (v : V), Rep Γ R F d v → Rep (Γ.more own) R F d v
  | .non, v, h => h
  | .bl b, v, h => h
  | .int i, v, h => h
  | .str x, v, h => h
  | .ty n, v, h => h
  | .cl n, v, h => by rw [Rep] at h ⊢; exact h
  | .unk, v, h => by rw [Rep] at h ⊢; exact h
  | .fn n, v, h => by
    rw [Rep] at h ⊢
    obtain ⟨f, c, pm, ct, e, q, l, u⟩ := h
    exact ⟨f, c, pm, ct, e, by rw [u.obj]; exact q, l, u.app⟩
  | .lst xs, v, h => by
    rw [Rep] at h ⊢
    obtain ⟨a, ys, e, q, l⟩ := h
    exact ⟨a, ys, e, q, RepL.to xs ys l⟩
  | .kl xs, v, h => by
    rw [Rep] at h ⊢
    obtain ⟨a, ys, e, q, l⟩ := h
    exact ⟨a, ys, e, q, RepL.to xs ys l⟩
  | .tup xs, v, h => by
    rw [Rep] at h ⊢
    obtain ⟨a, ys, e, q, l⟩ := h
    exact ⟨a, ys, e, q, RepL.to xs ys l⟩
  | .kt xs, v, h => by
    rw [Rep] at h ⊢
    obtain ⟨a, ys, e, q, l⟩ := h
    exact ⟨a, ys, e, q, RepL.to xs ys l⟩
  | .dK xs, v, h => by
    rw [Rep] at h ⊢
    obtain ⟨a, ys, e, q, l⟩ := h
    exact ⟨a, ys, e, q, RepK.to xs ys l⟩
  | .dT xs, v, h => by
    rw [Rep] at h ⊢
    obtain ⟨a, ys, e, q, l⟩ := h
    exact ⟨a, ys, e, q, RepT.to xs ys l⟩
  | .lt xs, v, h => by
    rw [Rep] at h ⊢
    obtain ⟨a, o, ys, e, q, l⟩ := h
    exact ⟨a, o, ys, e, q, RepT.to xs ys l⟩
  | .ins c fs, v, h => by
    rw [Rep] at h ⊢
    obtain ⟨a, dx, gs, e, q, q2, l⟩ := h
    exact ⟨a, dx, gs, e, q, q2, RepF.to fs gs l⟩
  | .ob i, v, h => by
    rw [Rep] at h ⊢
    exact h
theorem RepL.to : ∀ (xs : List D) (ys : List V), RepL Γ R F xs ys → RepL (Γ.more own) R F xs ys
  | [], ys, h => h
  | x :: xs, ys, h => by
    rw [RepL] at h ⊢
    obtain ⟨y, ys', e, q, l⟩ := h
    exact ⟨y, ys', e, Rep.to x y q, RepL.to xs ys' l⟩
theorem RepK.to : ∀ (xs : List (Key × D)) (ys : List (Key × V)), RepK Γ R F xs ys → RepK (Γ.more own) R F xs ys
  | [], ys, h => h
  | (k, x) :: xs, ys, h => by
    rw [RepK] at h ⊢
    obtain ⟨y, ys', e, q, l⟩ := h
    exact ⟨y, ys', e, Rep.to x y q, RepK.to xs ys' l⟩
theorem RepT.to : ∀ (xs : List (List Key × D)) (ys : List (List Key × V)), RepT Γ R F xs ys → RepT (Γ.more own) R F xs ys
  | [], ys, h => h
  | (k, x) :: xs, ys, h => by
    rw [RepT] at h ⊢
    obtain ⟨y, ys', e, q, l⟩ := h
    exact ⟨y, ys', e, Rep.to x y q, RepT.to xs ys' l⟩
theorem RepF.to : ∀ (xs : List (Str × D)) (ys : List (Str × V)), RepF Γ R F xs ys → RepF (Γ.more own) R F xs ys
  | [], ys, h => h
  | (k, x) :: xs, ys, h => by
    rw [RepF] at h ⊢
    obtain ⟨y, ys', e, q, l⟩ := h
    exact ⟨y, ys', e, Rep.to x y q, RepF.to xs ys' l⟩
end
mutual
theorem Own.to : ∀ (s : Sl) (v : V) (c : Cells), Own Γ R F s v c → Own (Γ.more own) R F s v c
  | .emp, v, c, h => h
  | .val d, v, c, h => by
    rw [Own] at h ⊢
    exact ⟨h.1, Rep.to d v h.2⟩
  | .lst xs, v, c, h => by
    rw [Own] at h ⊢
    obtain ⟨a, ys, e, q, l⟩ := h
    exact ⟨a, ys, e, RepL.to xs ys q, l⟩
  | .dK xs, v, c, h => by
    rw [Own] at h ⊢
    obtain ⟨a, ys, e, q, l⟩ := h
    exact ⟨a, ys, e, RepK.to xs ys q, l⟩
  | .dT xs, v, c, h => by
    rw [Own] at h ⊢
    obtain ⟨a, ys, e, q, l⟩ := h
    exact ⟨a, ys, e, RepT.to xs ys q, l⟩
  | .ins cn fs, v, c, h => by
    rw [Own] at h ⊢
    obtain ⟨a, dx, gs, c', e, q, l⟩ := h
    exact ⟨a, dx, gs, c', e, OwnF.to fs gs c' q, l⟩
  | .tab q, v, c, h => by rw [Own] at h ⊢; exact h
  | .rsv x, v, c, h => by
    rw [Own] at h ⊢
    obtain ⟨e1, ⟨a, e2⟩, e3⟩ := h
    exact ⟨e1, ⟨a, ceL_app e2⟩, e3⟩
  | .cel x d, v, c, h => by
    rw [Own] at h ⊢
    obtain ⟨a, o, u, y, e1, e2, e3, e4, e5, e6⟩ := h
    exact ⟨a, o, u, y, e1, ceL_app e2, e3, e4, Rep.to d y e5, e6⟩
  | .exn cn fs, v, c, h => by
    rw [Own] at h ⊢
    obtain ⟨a, o, dd, vs, gs, e1, e2, e3, e4, e5, e6, e7⟩ := h
    exact ⟨a, o, dd, vs, gs, e1, e2, e3, e4, e5, RepF.to fs gs e6, e7⟩
theorem OwnF.to : ∀ (fs : List (Str × Sl)) (gs : List (Str × V)) (c : Cells), OwnF Γ R F fs gs c → OwnF (Γ.more own) R F fs gs c
  | [], gs, c, h => h
  | (f, s) :: fs, gs, c, h => by
    rw [OwnF] at h ⊢
    obtain ⟨v, gs', c1, c2, e, q, l, e2⟩ := h
    exact ⟨v, gs', c1, c2, e, Own.to s v c1 q, OwnF.to fs gs' c2 l, e2⟩
end
end
end DV
namespace DV
open PySem PySem.Spec PyProof.Rows L2
def rsvS : List (Nat × Str) → List Sl → Option (List Sl)
  | [], S => some S
  | p :: J, S => match S[p.1]? with
    | some .emp => rsvS J (S.set p.1 (.rsv p.2))
    | _ => none
def Em : List Sl → List Sl → Prop
  | [], T => T = []
  | s :: S, T => ∃ t T', T = t :: T' ∧ (t = s ∨ (s = .emp ∧ ∃ x, t = .rsv x)) ∧ Em S T'
theorem Em.refl : ∀ (S : List Sl), Em S S
  | [] => rfl
  | s :: S => ⟨s, S, rfl, .inl rfl, Em.refl S⟩
section
variable {Γ : Gm}
theorem OwnO.to {R : List Addr} {F : Hp} {own : List (Str × Addr)} {s : Sl} {o : Option V} {c : Cells} (h : OwnO Γ R F s o c) : OwnO (Γ.more own) R F s o c := by
  by_cases e : s = .emp
  · subst e; exact h
  · obtain ⟨v, e1, ow⟩ := h.of_ne e
    subst e1
    exact OwnO.mk (Own.to s v c ow)
theorem OwnS.to {R : List Addr} {F : Hp} {own : List (Str × Addr)} : ∀ {S : List Sl} {r : List Addr} {C : Cells}, OwnS Γ R F S r C → OwnS (Γ.more own) R F S r C
  | [], _, _, h => h
  | s :: S, r, C, h => by
    obtain ⟨a, r', c1, c2, e1, q, l, e2⟩ := h
    exact ⟨a, r', c1, c2, e1, q.to, OwnS.to l, e2⟩
end
end DV
namespace DV
open PySem PySem.Spec PyProof.Rows L2
end DV
namespace DV
open PySem PySem.Spec PyProof.Rows L2
end DV
namespace DV
open PySem PySem.Spec PyProof.Rows L2
section
variable {ρ S S1 S2 : List Sl} {QR : Rv → List Sl → List Sl → Prop} {E : XQ} {Q : Rv → List Sl → Prop} {E1 : Exn → List Sl → Prop} {i j k n c : Nat} {J : CelL} {cs : M (List D)} {q : Str} {ds : List D}
def rvq (J : List (Nat × Str)) (S S1 : List Sl) : Prop := rsvS J S = some S1
theorem rvq_nil : rvq [] S S := rfl
theorem rvq_cons {x : Str} {J : List (Nat × Str)} (e : nt S j .emp) (e2 : st S j (.rsv x) S1) (h : rvq J S1 S2) : rvq ((j, x) :: J) S S2 := by
  obtain ⟨l, rfl⟩ := e2
  have e : S[j]? = some .emp := e
  unfold rvq
  simp only [rsvS, e]
  exact h
def pt2 (b : Nat) (S : List Sl) (x y : Sl) : List Sl := (S.set b x).set (b + 1) y
end
section
variable {S : List Sl} {b i : Nat} {x y z s : Sl}
theorem nt_upX {X : List Sl} (h : nt S i s) : nt (S ++ X) i s := by
  have h : S[i]? = some s := h
  show (S ++ X)[i]? = some s
  rw [List.getElem?_append_left (List.getElem?_eq_some_iff.mp h).1]; exact h
/-- both places wait -/
structure Two (b : Nat) (S : List Sl) : Prop where
  e0 : nt S b .emp
  e1 : nt S (b + 1) .emp
theorem Two.len (h : Two b S) : b + 1 < S.length := (List.getElem?_eq_some_iff.mp h.e1).1
theorem Two.nt (h : Two b S) (k : nt S i s) (ne : s ≠ .emp) : nt (pt2 b S x y) i s := by
  have k : S[i]? = some s := k
  have n0 : b ≠ i := fun e => by
    subst e
    have z : S[b]? = some .emp := h.e0
    rw [z] at k; cases k; exact ne rfl
  have n1 : b + 1 ≠ i := fun e => by
    subst e
    have z : S[b + 1]? = some .emp := h.e1
    rw [z] at k; cases k; exact ne rfl
  show (pt2 b S x y)[i]? = some s
  unfold pt2
  rw [List.getElem?_set_ne n1, List.getElem?_set_ne n0]
  exact k
theorem Two.rsv {u v : Str} (h : Two b S) : rvq [(b, u), (b + 1, v)] S (pt2 b S (.rsv u) (.rsv v)) :=
  rvq_cons h.e0 ⟨by have := h.len; omega, rfl⟩ (rvq_cons (by
    show (S.set b _)[b + 1]? = _
    rw [List.getElem?_set_ne (by omega)]
    exact h.e1) ⟨by rw [List.length_set]; exact h.len, rfl⟩ rvq_nil)
theorem Two.up {X : List Sl} (h : Two b S) : Two b (S ++ X) := ⟨nt_upX h.e0, nt_upX h.e1⟩
end
end DV
namespace DV
open PySem PySem.SeqAt
open AutoSeq1 (wpAny_loadPart')
open MeetsSeq MeetsSeq2 MeetsSeq3 SeqRoads2
end DV
namespace DV
open PySem PySem.Spec PyProof.Rows L2
end DV
namespace DV
open PySem PySem.Spec PyProof.Rows L2
end DV
namespace DV
open PySem PySem.W PySem.Calls PyProof.Rows HandSHeadRun
end DV
namespace DV
open PySem PySem.Spec PyProof.Rows L2
end DV
namespace DV
open PySem PySem.SeqAt PySem.W
end DV
namespace DV
open PySem PySem.Spec PyProof.Rows L2
end DV
namespace DV
open PySem PySem.SeqAt
open AutoSeq1 (wpAny_loadPart')
open MeetsSeq MeetsSeq2 MeetsSeq3 SeqRoads2
end DV
namespace DV
open PySem PySem.Spec PyProof.Rows L2
end DV
namespace DV
open PySem PySem.SeqAt
open AutoSeq1 (wpAny_loadPart')
open MeetsSeq MeetsSeq2 MeetsSeq3 SeqRoads2
open GQ
end DV
namespace DV
open PySem PySem.Spec PyProof.Rows L2
end DV
namespace DV
open PySem PySem.Spec PyProof.Rows L2
section
variable {Γ : Gm} {R : List Addr} {F : Hp}
theorem OwnS.nt : ∀ {S : List Sl} {r : List Addr} {c : Cells}, OwnS Γ R F S r c → ∀ p ∈ c, ∀ xs, p.2 ≠ .tup xs
  | [], _, _, h => by rw [h.2]; exact nofun
  | _ :: _, _, _, ⟨o, σ', c1, c2, _, q, l, e2⟩ => fun p hp xs => by
    rw [e2] at hp
    rcases List.mem_append.mp hp with hp | hp
    · exact q.nt p hp xs
    · exact OwnS.nt l p hp xs
end
end DV
namespace DV
open PySem PySem.Spec PyProof.Rows L2
end DV
namespace DV
open PySem PySem.SeqAt
open AutoSeq1 (wpAny_loadPart')
open MeetsSeq MeetsSeq2 MeetsSeq3 SeqRoads2
open GQ
end DV
namespace DV
open PySem PySem.Spec PyProof.Rows L2
end DV
namespace PySem
namespace HandSPX
open PySem PySem.Spec PySem.Calls PyProof.Rows Builtin Builtin.ObjectAttr
section
variable {M : Model} {A : Around} {E : Value → Shared → Prop} {h : Heap} {g : Array GenState} {d : Drawn} {t : Nat} {os : OsState}
variable {nm q : Str} {C N : Addr} {bs bm bmB : List Value} {hdct : Bool} {sn : List Str} {sub : List Value} {ab : Bool} {col : Option Bool} {dd : Option Addr} {k0 k1 k2 k3 k5 : Option Value} {B newId initId : String} {kn : Str} {kv : Value}
theorem check_new_ownK (F : ExcBaseFacts B newId initId bmB) (hT : ∀ X : String, bm.contains (.type X) = bmB.contains (.type X)) {rest : List Value} {Q : Unit → Shared → Prop}
    (hC : h.get? C = some (excClassObj nm q C N bs bm hdct sn sub ab col dd k0 k1 k2 k3 k5 newId)) (hq : Q () ⟨h, g, d, t, os⟩) : wpAny M A (checkBuiltinCall newId ⟨.ref C :: rest, [(kn, kv)]⟩) Q E ⟨h, g, d, t, os⟩ := by iterate
  have hcont : (Value.ref C :: bm).contains (.type B) = true := by rw [List.contains_cons, hT, F.hasB, Bool.or_true]
  have hstar := F.noStar
  simp only [checkBuiltinCall, F.newKind, F.newSplit, F.newRow]
  repeat (first | refine wpAny_loadPart_at hC ?_ | (refine wpAny_isSubtype_exc hC ?_; rw [hcont]) | refine wpAny_staticBase_exc hC ?_ | refine wpAny_madeBy_exc hC ?_ | simp only [bne_self_eq_false, Bool.false_eq_true, if_false] | wp_step)
  exact hq
end
section
variable {prog : Program} {w : World} {A : Around} {E : Value → Shared → Prop} {R : Result → Shared → Prop} {h : Heap} {g : Array GenState} {d : Drawn} {t : Nat} {os : OsState}
variable {nm q : Str} {C N : Addr} {bs bm bmB : List Value} {hdct : Bool} {sn : List Str} {sub : List Value} {ab : Bool} {col : Option Bool} {dd : Option Addr} {k0 k1 k2 k3 k5 : Option Value} {B newId initId : String} {kn : Str} {kv : Value}
theorem new_ownK (F : ExcBaseFacts B newId initId bmB) (hT : ∀ X : String, bm.contains (.type X) = bmB.contains (.type X)) {rest : List Value}
    (hC : h.get? C = some (excClassObj nm q C N bs bm hdct sn sub ab col dd k0 k1 k2 k3 k5 newId))
    (hq : R (.ok (.ret (.ref (h.objs.size + 1)))) ⟨(h.push { cls := .type "tuple", data := .seq rest.toArray }).push
      { cls := .ref C, data := .fields #[.ref h.objs.size, .none, .none, .none, .bool false, .none] }, g, d, t, os⟩) (hrest : rest.length ≤ sizeLine) :
    codeAny (model prog w) A (.builtin newId ⟨.ref C :: rest, [(kn, kv)]⟩) R ⟨h, g, d, t, os⟩ := by iterate
  have hends := F.ends
  have hcB : (Value.ref C :: bm).contains (.type B) = true := by rw [List.contains_cons, hT, F.hasB, Bool.or_true]
  have hcA : (Value.ref C :: bm).contains (.type "AttributeError") = false := by rw [List.contains_cons, hT, F.noAttr]; rfl
  have hcN : (Value.ref C :: bm).contains (.type "NameError") = false := by rw [List.contains_cons, hT, F.noName]; rfl
  refine codeAny_builtinAt F.entry ?_
  unfold Builtin.«BaseException.__new__»
  refine wpAt_bind ?_
  show wpAt _ _ _ (stack >>= _) _ _ _
  refine wpAt_bind (wpAt_stack fun p below => wpAt_of_wpAny ?_)
  wp_walk
  refine wpAt_of_wpAny ?_
  rw [F.owner]
  repeat (first | with_reducible refine wpAny_madeHere_exc F.canon hC ?_ | with_reducible refine wpAny_loadPart_at hC ?_ | (with_reducible refine wpAny_isSubtype_exc hC ?_; first | rw [hcB] | rw [hcA] | rw [hcN]) | wp_step)
  show R _ _
  rw [Heap.size_push]
  exact hq
theorem type_call_ownK (F : ExcBaseFacts B newId initId bmB) (hT : ∀ X : String, bm.contains (.type X) = bmB.contains (.type X)) {rest : List Value} {fI : Addr} {Q : Fin → Shared → Prop}
    (hC : h.get? C = some (excClassObj nm q C N bs bm hdct sn sub ab col dd k0 k1 k2 k3 k5 newId))
    (hi : W.Looks (model prog w) h (typeLookup (.ref C) "__init__") (some (.ref fI))) (hb : ∀ self, W.Looks (model prog w) h (bindSpecial (.ref fI) self) (.ref fI, [self])) (hrest : rest.length ≤ sizeLine)
    (hq : codeAny (model prog w) A (.call (.ref fI) ⟨.ref (h.objs.size + 1) :: rest, [(kn, kv)]⟩)
      (fun r s' => match r with | .ok (.ret v) => v = .none ∧ Q (.done (.ret (.ref (h.objs.size + 1)))) s' | .ok _ => False | .error e => E e s')
      ⟨(h.push (W.kdv_tup rest)).push (excO C h.objs.size), g, d, t, os⟩) :
    wpAny (model prog w) A (Builtin.«type.__call__» ⟨.ref C :: rest, [(kn, kv)]⟩) Q E ⟨h, g, d, t, os⟩ := by iterate
  repeat (first | with_reducible refine wpAny_loadPart_at hC ?_ | with_reducible refine wpAny_madeBy_exc hC ?_ | wp_step)
  refine codeAny_call_builtin_code (Code.quiet_builtin _ F.quiet) (check_new_ownK F hT hC ?_)
  refine new_ownK F hT hC ?_ hrest
  show wpAny _ _ _ _ _ _
  have k : ∀ b o, h.get? b = some o → ((h.push (W.kdv_tup rest)).push (excO C h.objs.size)).get? b = some o := fun b o e => Heap.get?_push_of_some _ (Heap.get?_push_of_some _ e)
  have hC₁ := k _ _ hC
  have hget : ((h.push (W.kdv_tup rest)).push (excO C h.objs.size)).get? (h.objs.size + 1) = some (excO C h.objs.size) := by heap_get
  have hcC : (Value.ref C :: bm).contains (.ref C) = true := by simp
  have i1 := hi.keeps k
  have b1 := (hb (.ref (h.objs.size + 1))).keeps k
  unfold isInstance
  repeat (first | with_reducible refine wpAny_loadPart_at hget ?_ | (with_reducible refine wpAny_isSubtype_exc hC₁ ?_; rw [hcC]) | wp_step)
  show wpAny _ _ (typeLookup (.ref C) _) _ _ _
  refine i1.at ?_
  refine wpAny_holding (wpAny_bind (b1.at ?_))
  refine wpAny_bind (wpAny_call (codeAny_mono hq fun r s' z => ?_))
  rcases r with e | (v | _ | _ | _) <;> first | exact z | exact z.elim | skip
  obtain ⟨rfl, z⟩ := z
  first
    | exact wpAny_pure (wpAny_pure z)
    | (wp_walk; exact z)
theorem check_type_callK {M : Model} {E : Value → Shared → Prop} {rest : List Value} {Q : Unit → Shared → Prop} (hC : h.get? C = some (excClassObj nm q C N bs bm hdct sn sub ab col dd k0 k1 k2 k3 k5 newId))
    (hq : Q () ⟨h, g, d, t, os⟩) : wpAny M A (checkBuiltinCall "type.__call__" ⟨.ref C :: rest, [(kn, kv)]⟩) Q E ⟨h, g, d, t, os⟩ := by
  have f3 := tc_sub
  have hT : (⟨h, g, d, t, os⟩ : Shared).TypeIs (.ref C) "type" := ⟨_, hC, rfl⟩
  simp only [checkBuiltinCall, tc_kind, tc_split]
  repeat (any_goals (first | assumption | with_reducible refine wpAny_loadPart_at hC ?_ | with_reducible refine wpAny_onRaise ?_ | with_reducible refine wpAny_map ?_ | wp_step))
theorem call_ownK (F : ExcBaseFacts B newId initId bmB) (hT : ∀ X : String, bm.contains (.type X) = bmB.contains (.type X)) {rest : List Value} {fI : Addr}
    (hC : h.get? C = some (excClassObj nm q C N bs bm hdct sn sub ab col dd k0 k1 k2 k3 k5 newId))
    (hi : W.Looks (model prog w) h (typeLookup (.ref C) "__init__") (some (.ref fI))) (hb : ∀ self, W.Looks (model prog w) h (bindSpecial (.ref fI) self) (.ref fI, [self])) (hrest : rest.length ≤ sizeLine)
    (hq : codeAny (model prog w) (A.under (.builtin "type.__call__" ⟨.ref C :: rest, [(kn, kv)]⟩)) (.call (.ref fI) ⟨.ref (h.objs.size + 1) :: rest, [(kn, kv)]⟩) (W.InitBack (h.objs.size + 1) R)
      ⟨(h.push (W.kdv_tup rest)).push (excO C h.objs.size), g, d, t, os⟩) :
    codeAny (model prog w) A (.call (.ref C) ⟨rest, [(kn, kv)]⟩) R ⟨h, g, d, t, os⟩ := by iterate
  have f1 := tc_lookup
  have f2 := tc_bind (.ref C)
  have hTy : (⟨h, g, d, t, os⟩ : Shared).TypeIs (.ref C) "type" := ⟨_, hC, rfl⟩
  refine codeAny_of_tree ?_
  show wpAny _ _ (callAny (.ref C) _) _ _ _
  repeat (any_goals (first | assumption | with_reducible refine wpAny_loadPart_at hC ?_ | wp_step))
  refine ⟨rfl, ?_⟩
  refine codeAny_call_builtin_at (Code.quiet_builtin _ (by decide +kernel)) entry_typeCall (check_type_callK hC (type_call_ownK F hT hC hi hb hrest ?_))
  refine codeAny_mono hq fun r s' z => ?_
  rcases r with e | (v | _ | _ | _) <;> exact z
end
end HandSPX
end PySem
namespace DV
open PySem PySem.Spec PyProof.Rows L2
section
open PySem.HandSPX
theorem call_ownG {prog : Program} {w : World} {A : Around} {R : Result → Shared → Prop} {h : Heap} {g : Array GenState} {d : Drawn} {t : Nat} {os : OsState}
    {nm q : Str} {C N : Addr} {bs bm bmB : List Value} {hdct : Bool} {sn : List Str} {sub : List Value} {ab : Bool} {col : Option Bool} {dd : Option Addr} {k0 k1 k2 k3 k5 : Option Value} {B newId initId : String} {kw : List (Str × Value)}
    (F : ExcBaseFacts B newId initId bmB) (hT : ∀ X : String, bm.contains (.type X) = bmB.contains (.type X)) {rest : List Value} {fI : Addr} (hk : kw.length ≤ 1)
    (hC : h.get? C = some (excClassObj nm q C N bs bm hdct sn sub ab col dd k0 k1 k2 k3 k5 newId))
    (hi : W.Looks (model prog w) h (typeLookup (.ref C) "__init__") (some (.ref fI))) (hb : ∀ self, W.Looks (model prog w) h (bindSpecial (.ref fI) self) (.ref fI, [self])) (hrest : rest.length ≤ sizeLine)
    (hq : codeAny (model prog w) (A.under (.builtin "type.__call__" ⟨.ref C :: rest, kw⟩)) (.call (.ref fI) ⟨.ref (h.objs.size + 1) :: rest, kw⟩) (W.InitBack (h.objs.size + 1) R)
      ⟨(h.push (W.kdv_tup rest)).push (excO C h.objs.size), g, d, t, os⟩) :
    codeAny (model prog w) A (.call (.ref C) ⟨rest, kw⟩) R ⟨h, g, d, t, os⟩ := by
  match kw, hk with
  | [], _ => exact call_own F hT hC hi hb hrest hq
  | [(k, v)], _ => exact call_ownK F hT hC hi hb hrest hq
  | _ :: _ :: _, hk => exact absurd hk (by simp)
end
section
variable {X : Cx} {C fI : Addr} {b : XB} {k n : Nat} {fd : FuncData} {ps ks : List Str} {sp : Sp} {Q : VK} {pins : List (Addr × Obj)} {σ : L2.St} {H1 : Hp} {s1 : Shared} {us ws : List Value} {vs zs : List V} {g : List Value → List Value → List Value} {gV : List V → List V → List V}
/-- what the making of such a value owes -/
def MkV (C : Addr) (sp : Sp) (gV : List V → List V → List V) (vs zs : List V) (H1 : Hp) (Q : VK) : Prop := ∀ a, H1 a = none → sp (gV (.ref a :: vs) zs) (upd H1 a (exo a C none))
  (fun v H2 => v = .non ∧ ∃ (d : Addr) (fs : List (Str × V)), H2 a = some (exo a C (some d)) ∧ H2 d = some (exd d fs) ∧ H1 d = none ∧
    ∀ oe : Obj, oe.cls = .ref C → oe.dict = some d → (∃ vs, oe.data = .fields vs) → Q (.ref a) (upd (upd (L2.del H2 a) d (.xd fs)) a (.frz oe (.own a)))) (fun _ _ _ => False)
theorem run_oxV (T : OxB X.K C b) (iC : PySem.W.findIn X.K (.ref C) "__init__" = some (some (.ref fI))) (tI : PySem.W.typeIn X.K (.ref fI) = some (.type "function")) (F1 : FnOk X.prog X.w X.K X.mg X.base (L2.CX X.prog X.w) k fI fd ps sp) (hr : Room (k + 1) X.A) (hb : KBn X.K fd ps (n + 1) ks g gV)
    (hx : Passes (L2.CX X.prog X.w) X (fun _ _ _ => False)) (hk : ks.length ≤ 1) (I1 : Inv X pins σ H1 s1) (r1 : Vals vs us) (rz : Vals zs ws) (l1 : vs.length = n) (l2 : zs.length = ks.length) (hn : n ≤ 1000) (hw : MkV C sp gV vs zs H1 Q) :
    wpAny (model X.prog X.w) X.A (call (.ref C) us (ks.zip ws)) (EP X pins σ Q) X.xe s1 := by iterate
  obtain ⟨nm, q, N, bs, bm, sn, sub, ab, col, dd, k0, k1, k2, k3, k5, hC, hbm⟩ := T.cls
  obtain ⟨h0, g0, dr, tk, os⟩ := s1
  have up1 : h0.objs.size ≤ h0.objs.size + 1 := Nat.le_succ _
  have new1 : H1 (h0.objs.size + 1) = none := I1.hok.fresh up1
  have hq := hw _ new1
  have kept : ∀ c o, h0.get? c = some o → ((h0.push (PySem.W.kdv_tup us)).push (PySem.HandSPX.excO C h0.objs.size)).get? c = some o := fun c o e => Heap.get?_push_of_some _ (Heap.get?_push_of_some _ e)
  have at1 : ((h0.push (PySem.W.kdv_tup us)).push (PySem.HandSPX.excO C h0.objs.size)).get? (h0.objs.size + 1) = some (PySem.HandSPX.excO C h0.objs.size) := by heap_get
  have I2 := I1.laid (t' := tk) (a := h0.objs.size + 1) (o := exo (h0.objs.size + 1) C none) kept up1 (exo_ok at1)
  have r2 : Vals (V.ref (h0.objs.size + 1) :: vs) (Value.ref (h0.objs.size + 1) :: us) := .cons rfl r1
  have e1 : (Value.ref (h0.objs.size + 1) :: us).length = n + 1 := r2.length.symm.trans (congrArg Nat.succ l1)
  have e2 : ws.length = ks.length := rz.length.symm.trans l2
  have r3 := hb.rel r2 rz
  have lus : us.length ≤ sizeLine := by
    rw [← Paired.length r1, sizeLine_eq]
    omega
  have bd := hb.to ⟨(h0.push (PySem.W.kdv_tup us)).push (PySem.HandSPX.excO C h0.objs.size), g0, dr, tk, os⟩ (Value.ref (h0.objs.size + 1) :: us) ws I2.kIn e1 e2
  have body := F1.run (X.A.under (.builtin "type.__call__" ⟨.ref C :: us, ks.zip ws⟩)) X.stack _ _ ⟨Value.ref (h0.objs.size + 1) :: us, ks.zip ws⟩ (g (Value.ref (h0.objs.size + 1) :: us) ws) _ _ (fun _ _ _ => False) (hr.make C us (ks.zip ws)) (I2.env0.make C us (ks.zip ws)) bd r3 hq
  refine wpAny_call (call_ownG b.facts (XB.row_has hbm) (by rw [List.length_zip]; omega) (I1.kIn _ _ hC) (PySem.W.looks_findIn I1.kIn iC) (fun self => PySem.W.bind_fn I1.kIn self tI) lus (codeAny_mono body fun r s' back => ?_))
  rcases r with er | fl
  · exact hx pins σ _ _ er s' I2 back
  cases fl with
  | next => exact False.elim back
  | brk => exact False.elim back
  | cont => exact False.elim back
  | ret u =>
    obtain ⟨v, H2, os2, bare2, un2, hok2, rv, ev, d, fs, ea, ed, hd1, q2⟩ := back
    subst ev
    obtain ⟨h2, g2, d2, t2, os'⟩ := s'
    obtain ⟨t0, G, J, kG, ge, hoe, na⟩ := mk_end0 (d2 := d2) (t2 := t2) I1 up1 kept un2 hok2 os2 bare2 ea ed hd1
    have J2 := J.laidN (t' := t2) (h' := h2) (o := .frz _ (.own (h0.objs.size + 1))) kG ge na ⟨hoe, _, hoe⟩
    exact ⟨rv, .ref (h0.objs.size + 1), _, J2, rfl, q2 _ rfl rfl ⟨_, rfl⟩⟩
end
/-- C(e, .., k = v): n values and at most one keyword: a new exception in the store -/
def cExc (c n j : Nat) (mk : List D → List (Str × D)) (gD : List D → List D → List D) (cs ck : M (List D)) : M Rv := fun ρ S => (cs ρ S).bind fun ds ρ S => (ck ρ S).bind fun es ρ S =>
  if ds.length = n ∧ es.length = j then .ok (.d (.ob S.length)) ρ (S ++ [.exn c (mk (gD ds es))]) false else .bad
section
variable {Γ : Gm} {w w0 w1 : Wd} {σ : L2.St} {ρ S : List Sl} {c : Nat} {fs : List (Str × D)} {gs : List (Str × V)} {a d : Addr} {oe : Obj}
/-- a new exception, its dict new as well -/
theorem push_exn (h : Rel Γ w ρ S σ) (na : w.H a = none) (nd : w.H d = none) (ne : d ≠ a) (e1 : oe.cls = .ref (Γ.cA c)) (e2 : oe.dict = some d) (e3 : ∃ vs, oe.data = .fields vs) (e5 : RepF Γ w.R w.F fs gs) :
    ∃ w2 : Wd, w2.H = upd (upd w.H d (.xd gs)) a (.frz oe (.own a)) ∧ Ext w w2 ∧ Rel Γ w2 ρ (S ++ [.exn c fs]) σ ∧ w2.E = w.E ∧ Rep Γ w2.R w2.F (.ob S.length) (.ref a) := by iterate
  have g := h.good
  have x1 := Ext.newF (o := HO.xd gs) g nd
  have r1 : Rel Γ { w with F := upd w.F d (.xd gs), H := upd w.H d (.xd gs) } ρ S σ := h.move x1.gr (Good.newF g nd) rfl rfl rfl
  have g1 := r1.good
  have na1 : Wd.H { w with F := upd w.F d (.xd gs), H := upd w.H d (.xd gs) } a = none := by
    show upd w.H d _ a = none
    rw [upd_ne (Ne.symm ne)]
    exact na
  have x2 := Ext.new (o := HO.frz oe (.own a)) g1 na1
  have g2 := Good.new (o := HO.frz oe (.own a)) g1 na1
  have f2 := Fresh.new (o := HO.frz oe (.own a)) g1 na1 nofun
  have r2 : Rel Γ { w with F := upd w.F d (.xd gs), H := upd (upd w.H d (.xd gs)) a (.frz oe (.own a)) } ρ S σ := r1.move x2.gr g2 rfl rfl rfl
  have ow : Own Γ w.R (upd w.F d (.xd gs)) (.exn c fs) (.ref a) [(a, .frz oe (.own a))] := by
    rw [Own]
    obtain ⟨vs, e3⟩ := e3
    exact ⟨a, oe, d, vs, gs, rfl, e1, e2, e3, upd_same, RepF.up x1.gr _ _ e5, rfl⟩
  have gr : Gr w.R (w.R ++ [a]) (upd w.F d (.xd gs)) (upd w.F d (.xd gs)) := ⟨⟨[a], rfl⟩, fun _ _ h => h⟩
  have ha := f2.at_ (a, .frz oe (.own a)) (by simp)
  have ead : Wd.ad ⟨upd w.F d (.xd gs), w.E, w.C ++ [(a, .frz oe (.own a))], w.R ++ [a], upd (upd w.H d (.xd gs)) a (.frz oe (.own a))⟩ = w.ad ++ [a] := by show (w.E ++ (w.C ++ [(a, _)])).map _ = (w.E ++ w.C).map _ ++ _; simp
  have x := x1.trans x2
  refine ⟨⟨upd w.F d (.xd gs), w.E, w.C ++ [(a, .frz oe (.own a))], w.R ++ [a], upd (upd w.H d (.xd gs)) a (.frz oe (.own a))⟩, rfl, ⟨x.gr.trans gr, x.keep, fun z hz => ?_, x.fnew, x.live⟩, ⟨⟨r2.good.sub, fun p hp => ?_, ?_⟩, r2.own.1.up gr, ?_⟩, rfl, ?_⟩
  · rw [ead] at hz
    rcases List.mem_append.mp hz with y | y
    · exact .inl y
    · have y : z = a := by simpa using y
      subst y
      exact .inr na
  · have hp : p ∈ w.E ++ (w.C ++ [(a, HO.frz oe (.own a))]) := hp
    rw [← List.append_assoc] at hp
    rcases List.mem_append.mp hp with y | y
    · exact r2.good.cell p y
    · have y : p = (a, HO.frz oe (.own a)) := by simpa using y
      subst y
      exact ⟨ha.1, ha.2.1⟩
  · rw [ead]
    refine List.nodup_append.mpr ⟨g.nd, by simp, fun p hp q hq z => ?_⟩
    have hq : q = a := by simpa using hq
    subst hq
    exact ha.2.2 (z ▸ hp)
  · exact OwnS.snoc ((OwnO.mk ow).up gr) (r2.own.2.up gr)
  · rw [Rep]
    have hl := h.own.2.length
    refine ⟨a, ?_, rfl⟩
    show (w.R ++ [a])[S.length]? = some a
    rw [hl]
    simp
end
section
variable {X : Cx} {Γ : Gm} {W : WX} {c k n : Nat} {fI : Addr} {fd : FuncData} {ps ks fs : List Str} {code x : Str} {p pos : Pos} {e : Expr} {es : List Expr} {kws : List Keyword} {cs ck : M (List D)} {gD : List D → List D → List D} {b : XB}
theorem exc_core {gV : List V → List V → List V} (hD : ∀ R F ds vs es zs x, RepL Γ R F ds vs → RepL Γ R F es zs → vs.length = n → zs.length = ks.length → ∃ vs', gV (.ref x :: vs) zs = .ref x :: vs' ∧ RepL Γ R F (gD ds es) vs' ∧ (gD ds es).length + 1 = ps.length) {σ : L2.St} {H : Hp} {Q : VK}
    (h : tM Γ W (cExc c n ks.length (excF code fs) gD cs ck) σ H Q) (hn : fs.length + 1 = ps.length) : tMl Γ W cs σ H fun vs H1 => tMl Γ W ck σ H1 fun zs H2 => vs.length = n ∧ zs.length = ks.length ∧ MkV (Γ.cA c) (spX (Γ.cA c) code fs) gV vs zs H2 Q := by iterate
  obtain ⟨F, E, C, R, ρ, S, rel, h⟩ := h
  refine ⟨F, E, C, R, ρ, S, rel, CKl.bindV h fun ds ρ1 S1 w1 vs x1 rel1 o1 ck1 => ⟨w1.F, w1.E, w1.C, w1.R, ρ1, S1, rel1, CKl.bindV ck1 fun es ρ2 S2 w2 zs x2 rel2 o2 ck2 => ?_⟩⟩
  split at ck2
  · rename_i hl
    have l1 : vs.length = n := by rw [← o1.length]; exact hl.1
    have l2 : zs.length = ks.length := by rw [← o2.length]; exact hl.2
    refine ⟨l1, l2, fun a na => ?_⟩
    obtain ⟨vs', g1, g2, g3⟩ := hD w2.R w2.F ds vs es zs a (o1.up x2.gr) o2 l1 l2
    refine ⟨by rw [g1, List.length_cons, ← g2.length]; omega, a, vs', g1, upd_same, fun d H' nd ne ea ed old => ⟨rfl, d, excV code fs vs', ea, ed, ?_, fun oe c1 c2 c3 => ?_⟩⟩
    · have nd : upd w2.H a (exo a (Γ.cA c) none) d = none := nd
      rw [upd_ne ne] at nd
      exact nd
    · have nd : upd w2.H a (exo a (Γ.cA c) none) d = none := nd
      rw [upd_ne ne] at nd
      have eH : upd (upd (L2.del H' a) d (.xd (excV code fs vs'))) a (.frz oe (.own a)) = upd (upd w2.H d (.xd (excV code fs vs'))) a (.frz oe (.own a)) := by
        funext z
        by_cases hz2 : z = a
        · subst hz2; rw [upd_same, upd_same]
        rw [upd_ne hz2, upd_ne hz2]
        by_cases hz : z = d
        · subst hz; rw [upd_same, upd_same]
        · rw [upd_ne hz, upd_ne hz, L2.del_ne hz2, old z hz2 hz]
          show upd w2.H a (exo a (Γ.cA c) none) z = _
          rw [upd_ne hz2]
      rw [eH]
      obtain ⟨w3, q1, q2, q3, q4, q5⟩ := push_exn (c := c) rel2 na nd ne c1 c2 c3 (repF_exc (code := code) (fs := fs) g2)
      rw [← q1]
      exact ck2 w3 (.ref a) q2 (fun _ => q4) q3 q5
  · exact ck2.elim
theorem pm_exc (ks : List Str) {j : Nat} (hj : ks.length = j) (hj1 : j ≤ 1) (hn1 : n ≤ 1000) (hn : fs.length + 1 = ps.length) (T : ExcX X.K (Γ.cA c) b fs) (iC : PySem.W.findIn X.K (.ref (Γ.cA c)) "__init__" = some (some (.ref fI))) (tI : PySem.W.typeIn X.K (.ref fI) = some (.type "function"))
    (F1 : FnOk X.prog X.w X.K X.mg X.base (L2.CX X.prog X.w) k fI fd ps (spX (Γ.cA c) code fs)) (hr : Room (k + 1) X.A) (hb : CallI Γ X.K fd ps n ks gD) (hg : Gl X x) (hm : X.mg x = some (.ref (Γ.cA c)))
    (hx : Passes (L2.CX X.prog X.w) X (fun _ _ _ => False)) (ha : PA X (e :: es) (tMl Γ W cs)) (hkw : PK X kws (tMl Γ W ck)) (hall : (backToKw pos (keywordEach kws X.env)).all (·.1.isSome) = true) (hks : (backToKw pos (keywordEach kws X.env)).filterMap (·.1) = ks)
    (hdb : (x == ("__debug__" : Str)) = false) (he : starEach (e :: es) X.env = (false, eval e X.env) :: starEach es X.env)
    (hpl : ((backTo pos (starEach (e :: es) X.env)).any (·.1) || (backToKw pos (keywordEach kws X.env)).any (·.1.isNone)) = false) :
    PE X (.Call (.Name x p) (e :: es) kws pos) (tM Γ W (cExc c n j (excF code fs) gD cs ck)) := by iterate
  subst hj
  obtain ⟨g, gV, hb, hD⟩ := hb
  refine ⟨fun pins s σ H Q I h => ?_⟩
  refine wpAny_Call_Name_kw (ld_glob I hg hm ?_ hdb)
  refine PySem.W.callWith_KW (h₀ := X.base) I.ok.mod.kin T.ox.kC hall (thn (ha.run pos pins s σ H _ I (exc_core hD h hn)) fun us s1 ⟨vs, H1, I1, r, q⟩ => ?_) hpl he
  refine thn (hkw.run pos pins s1 σ H1 _ I1 q) fun ws s2 ⟨zs, H2, I2, rz, l1, l2, q2⟩ => ⟨I2.kIn, ?_⟩
  rw [hks]
  exact run_oxV T.ox iC tI F1 hr hb hx hj1 I2 r rz l1 l2 hn1 q2
theorem pm_exc0 (ks : List Str) {j : Nat} (hj : ks.length = j) (hj1 : j ≤ 1) (hn : fs.length + 1 = ps.length) (T : ExcX X.K (Γ.cA c) b fs) (iC : PySem.W.findIn X.K (.ref (Γ.cA c)) "__init__" = some (some (.ref fI))) (tI : PySem.W.typeIn X.K (.ref fI) = some (.type "function"))
    (F1 : FnOk X.prog X.w X.K X.mg X.base (L2.CX X.prog X.w) k fI fd ps (spX (Γ.cA c) code fs)) (hr : Room (k + 1) X.A) (hb : CallI Γ X.K fd ps 0 ks gD) (hg : Gl X x) (hm : X.mg x = some (.ref (Γ.cA c)))
    (hx : Passes (L2.CX X.prog X.w) X (fun _ _ _ => False)) (hkw : PK X kws (tMl Γ W ck)) (hall : (backToKw pos (keywordEach kws X.env)).all (·.1.isSome) = true) (hks : (backToKw pos (keywordEach kws X.env)).filterMap (·.1) = ks)
    (hdb : (x == ("__debug__" : Str)) = false) (hpl : ((backTo pos (starEach [] X.env)).any (·.1) || (backToKw pos (keywordEach kws X.env)).any (·.1.isNone)) = false) :
    PE X (.Call (.Name x p) [] kws pos) (tM Γ W (cExc c 0 j (excF code fs) gD cNilD ck)) := by iterate
  subst hj
  obtain ⟨g, gV, hb, hD⟩ := hb
  refine ⟨fun pins s σ H Q I h => ?_⟩
  refine wpAny_Call_Name_kw (ld_glob I hg hm ?_ hdb)
  have h2 : tMl Γ W ck σ H fun zs H2 => zs.length = ks.length ∧ MkV (Γ.cA c) (spX (Γ.cA c) code fs) gV [] zs H2 Q := by
    obtain ⟨F, E, C, R, ρ, S, rel, h⟩ := exc_core (n := 0) hD h hn
    obtain ⟨F', E', C', R', ρ', S', rel', h'⟩ := h ⟨F, E, C, R, H⟩ [] (.refl _) (fun _ => rfl) rel (by rw [RepL])
    refine ⟨F', E', C', R', ρ', S', rel', ?_⟩
    cases q : ck ρ' S' with
    | bad => rw [q] at h'; exact h'
    | ex y ρ1 S1 => rw [q] at h'; exact h'
    | ok ds ρ1 S1 t => rw [q] at h'; exact fun w1 vs a1 a2 a3 a4 => (h' w1 vs a1 a2 a3 a4).2
  refine PySem.W.callWith_KW0 (h₀ := X.base) I.ok.mod.kin T.ox.kC hall (thn (hkw.run pos pins s σ H _ I h2) fun ws s2 ⟨zs, H2, I2, rz, l2, q2⟩ => ⟨I2.kIn, ?_⟩) hpl
  rw [hks]
  exact run_oxV (us := []) T.ox iC tI F1 hr hb hx hj1 I2 .nil rz rfl l2 (Nat.zero_le _) q2
end
structure IsXC (K : PySem.W.Frag) (C : Addr) : Prop where
  cl : (PySem.W.clsIn K C).isSome = true
  ga : PySem.W.findIn K (.ref C) "__getattribute__" = some (some (.builtin "BaseException.__getattribute__"))
  gt : PySem.W.findIn K (.ref C) "__getattr__" = some none
  sub : PySem.W.subIn K (.ref C) (.type "BaseException") = some true
  ca : PySem.W.findIn K (.ref C) "__class__" = some (some (.builtin "object.__class__"))
  gg : PySem.W.specialIn K (.builtin "object.__class__") "__get__" = some (some (.builtin "getset_descriptor.__get__"))
  tk : PySem.W.takesIn K (.builtin "object.__class__") = some true
  mr : PySem.W.mroIn K C (.type "object") = some true
def isXCB (K : PySem.W.Frag) (C : Addr) : Bool := (PySem.W.clsIn K C).isSome && (He.eqO (PySem.W.findIn K (.ref C) "__getattribute__") (some (some (.builtin "BaseException.__getattribute__"))) && (He.eqO (PySem.W.findIn K (.ref C) "__getattr__") (some none) && ((PySem.W.subIn K (.ref C) (.type "BaseException") == some true) &&
  (He.eqO (PySem.W.findIn K (.ref C) "__class__") (some (some (.builtin "object.__class__"))) && (He.eqO (PySem.W.specialIn K (.builtin "object.__class__") "__get__") (some (some (.builtin "getset_descriptor.__get__"))) && ((PySem.W.takesIn K (.builtin "object.__class__") == some true) && (PySem.W.mroIn K C (.type "object") == some true)))))))
theorem isXCB_ok {K : PySem.W.Frag} {C : Addr} (h : isXCB K C = true) : IsXC K C := by iterate
  obtain ⟨h1, h⟩ := He.ba h
  obtain ⟨h2, h⟩ := He.ba h
  obtain ⟨h3, h⟩ := He.ba h
  obtain ⟨h4, h⟩ := He.ba h
  obtain ⟨h5, h⟩ := He.ba h
  obtain ⟨h6, h⟩ := He.ba h
  obtain ⟨h7, h8⟩ := He.ba h
  exact ⟨h1, He.eqO_ok h2, He.eqO_ok h3, beq_iff_eq.mp h4, He.eqO_ok h5, He.eqO_ok h6, beq_iff_eq.mp h7, beq_iff_eq.mp h8⟩
/-- the table: the classes, the own and the built-in ones that are asked for, which is one of which -/
def isxT (cl us : List Nat) (tys : List String) (so : Nat → Nat → Bool) (st : Nat → String → Bool) : Nat → D → Option Bool := fun c d => match d with
  | .cl u => if (cl.contains c && us.contains u) = true then some (so c u) else none
  | .ty s => if (cl.contains c && tys.contains s) = true then some (st c s) else none
  | _ => none
structure IsXT (Γ : Gm) (T : Nat → D → Option Bool) : Prop where
  ok : ∀ c d b, T c d = some b → IsXC Γ.K (Γ.cA c) ∧ ∃ cv, (∀ R F v, Rep Γ R F d v → ClsV v cv) ∧ PySem.W.kitOne Γ.K (.ref (Γ.cA c)) cv = some b
def isxAll (K : PySem.W.Frag) (nm : Nat → Str) (cl us : List Nat) (tys : List String) (so : Nat → Nat → Bool) (st : Nat → String → Bool) : Bool := cl.all fun c => isXCB K (He.ga K (nm c)) && ((us.all fun u => PySem.W.kitOne K (.ref (He.ga K (nm c))) (.ref (He.ga K (nm u))) == some (so c u)) && (tys.all fun s => PySem.W.kitOne K (.ref (He.ga K (nm c))) (.type s) == some (st c s)))
theorem isxt_of {lm : Nat → LamI} {ce : List (Str × Addr)} {tb : Str → Addr} {K : PySem.W.Frag} {nm : Nat → Str} {cl us : List Nat} {tys : List String} {so : Nat → Nat → Bool} {st : Nat → String → Bool} (h : isxAll K nm cl us tys so st = true) : IsXT ⟨K, fun c => He.ga K (nm c), lm, ce, tb⟩ (isxT cl us tys so st) := by iterate
  refine ⟨fun c d b e => ?_⟩
  unfold isxT at e
  split at e
  · rename_i u
    split at e
    · rename_i hc
      cases e
      obtain ⟨c1, c2⟩ := He.ba hc
      obtain ⟨h1, h2⟩ := He.ba (List.all_eq_true.mp h c (List.contains_iff_mem.mp c1))
      obtain ⟨h2, h3⟩ := He.ba h2
      refine ⟨isXCB_ok h1, .ref (He.ga K (nm u)), fun R F v r => ?_, beq_iff_eq.mp (List.all_eq_true.mp h2 u (List.contains_iff_mem.mp c2))⟩
      rw [Rep] at r
      subst r
      exact .own _
    · cases e
  · rename_i s
    split at e
    · rename_i hc
      cases e
      obtain ⟨c1, c2⟩ := He.ba hc
      obtain ⟨h1, h2⟩ := He.ba (List.all_eq_true.mp h c (List.contains_iff_mem.mp c1))
      obtain ⟨h2, h3⟩ := He.ba h2
      refine ⟨isXCB_ok h1, .type s, fun R F v r => ?_, beq_iff_eq.mp (List.all_eq_true.mp h3 s (List.contains_iff_mem.mp c2))⟩
      rw [Rep] at r
      subst r
      exact .ty _
    · cases e
  · cases e
def rIsX (K : PySem.W.Frag) : List V → Hp → VK → Prop := fun xs H Q => ∃ (a C dd : Addr) (oe : Obj) (gs : List (Str × V)) (u : V) (cv : Value) (b : Bool), xs = [.ref a, u] ∧ H a = some (.frz oe (.own a)) ∧ oe.cls = .ref C ∧ oe.dict = some dd ∧ (∃ vs, oe.data = .fields vs) ∧ H dd = some (.xd gs) ∧
  IsXC K C ∧ ClsV u cv ∧ PySem.W.kitOne K (.ref C) cv = some b ∧ Q (.bl b) H
theorem call_isX {X : Cx} : CallR X (.builtin "isinstance") (rIsX X.K) := by iterate
  intro pins s σ H xs us Q I r h
  obtain ⟨a, C, dd, oe, gs, u, cv, b, rfl, ea, ec, ed, ⟨vs, edt⟩, edd, T, k, e, q⟩ := h
  obtain ⟨u1, u2, rfl, r1, r2⟩ := vals2 r
  obtain rfl : u1 = Value.ref a := r1
  have e2 := k.eq r2
  subst e2
  have ha : s.heap.get? a = some oe := (show ObjOk X.prog X.w H s.heap a (.frz oe (.own a)) from I.hok a _ ea).1
  have hx : ObjOk X.prog X.w H s.heap dd (.xd gs) := I.hok dd _ edd
  obtain ⟨mA, hns, hr⟩ := hx
  obtain ⟨od, ho, hl⟩ := lookIn_ns hns
  have J : PySem.W.InstAt s.heap a oe C (some od) := ⟨ha, ec, by unfold PySem.W.notCls; rw [edt] <;> rfl, by rw [ed]; exact ho⟩
  exact PySem.W.kia_one (PySem.W.kitx_exc T.cl T.ga T.gt T.sub T.ca T.gg T.tk T.mr) I.kIn J e (fun z => nomatch z) fun tk => ⟨.bl b, H, I.tok tk, rfl, q⟩
def isxR (T : Nat → D → Option Bool) (S : List Sl) : List D → Option Bool
  | [.ob j, d] => match S[j]? with
    | some (.exn c _) => T c d
    | _ => none
  | _ => none
def cIsX (T : Nat → D → Option Bool) (cs : M (List D)) : M Rv := fun ρ S => (cs ρ S).bind fun ds ρ S => match isxR T S ds with
  | some b => .ok (.d (.bl b)) ρ S false
  | none => .bad
section
variable {X : Cx} {Γ : Gm} {W : WX} {T : Nat → D → Option Bool} {e : Expr} {es : List Expr} {cs : M (List D)} {p pos : Pos}
theorem pm_isX (hK : Γ.K = X.K) (O : IsXT Γ T) (hg : Gl X "isinstance") (hm : X.mg "isinstance" = none) (ha : PA X (e :: es) (tMl Γ W cs)) (he : starEach (e :: es) X.env = (false, eval e X.env) :: starEach es X.env) (hpl : (backTo pos (starEach es X.env)).any (·.1) = false) :
    PE X (.Call (.Name "isinstance" p) (e :: es) [] pos) (tM Γ W (cIsX T cs)) := by iterate
  refine (pe_callB call_isX hg hm (by rfl) ha (by decide) (by decide) he hpl).imp fun σ H Q ⟨F, E, C, R, ρ, S, rel, h⟩ => ⟨F, E, C, R, ρ, S, rel, CKl.bindV h fun ds ρ1 S1 w1 vs x1 rel1 l1 ck1 => ?_⟩
  cases q : isxR T S1 ds with
  | none => simp only [q] at ck1; exact ck1.elim
  | some b =>
    simp only [q] at ck1
    unfold isxR at q
    split at q
    · rename_i j d
      split at q
      · rename_i c fs es'
        rw [RepL] at l1
        obtain ⟨v, vs', rfl, rx, l1⟩ := l1
        rw [RepL] at l1
        obtain ⟨u, vs2, rfl, rc, l1⟩ := l1
        rw [RepL] at l1
        subst l1
        obtain ⟨a, oe, dd, vs, gs, e1, e2, e3, e4, e5, e6, e7⟩ := rel1.exn rx es'
        subst e1
        obtain ⟨t1, cv, t2, t3⟩ := O.ok c d b q
        rw [hK] at t1 t3
        exact ⟨a, _, dd, oe, gs, u, cv, b, rfl, e2, e3, e4, ⟨vs, e5⟩, e6, t1, t2 _ _ _ rc, t3, ck1 w1 (.bl b) (.refl _) (fun _ => rfl) rel1 (show Rep Γ w1.R w1.F (.bl b) (.bl b) from rep_bl)⟩
      · cases q
    · cases q
end
section
variable {ρ S : List Sl} {QR : Rv → List Sl → List Sl → Prop} {EX : Exn → List Sl → List Sl → Prop} {T : Nat → D → Option Bool} {cs ck : M (List D)} {c n j : Nat} {mk : List D → List (Str × D)} {gD : List D → List D → List D}
theorem wp_of_eq {α : Type} {a : M α} {r : α} {ρ' S' : List Sl} {t : Bool} {QA : α → List Sl → List Sl → Prop} (e : a ρ S = .ok r ρ' S' t) (h : QA r ρ' S') : wp a ρ S QA EX := by
  unfold wp
  rw [e]
  exact h
end
end DV
namespace Lk01
open PySem PySem.Spec PyProof.Rows L2 DV
def top (i : Nat) : Stmt := PySem.Challenge.pw_rightfrom_k01_errors_by_themselves.main.body.getD i (.Pass ⟨0, 0, 0, 0⟩)
abbrev ncl : Nat := 0
def cnm : Nat → Str := fun c => (["InvalidSymbols", "InvalidSymbol", "InvalidText", "InvalidPiece", "InvalidCost", "InvalidRow", "InvalidVerdict", "InvalidState", "InvalidNumber", "InvalidName", "InvalidReader", "InvalidKind", "InvalidPattern", "InvalidRule", "InvalidCommand", "InvalidLimit", "InvalidPage", "UnlikeSymbols", "UnlikeNames", "NotFewer", "Unfounded", "NoText", "Full", "TooMany", "UnknownName", "NothingLeft", "FromError", "Missing"] : List Str).getD c ""
def sub : Nat → Nat → Bool := fun c d => c == d
def fldl : List (Nat × Str) := []
def flds : Nat → Str → Bool := fldT fldl
def konl : List (Nat × Str × D) := []
def kons : Nat → Str → Option D := konT konl
def lamTab : Nat → LamI := fun k => ([] : List LamI).getD k noL
abbrev Gk (K : PySem.W.Frag) (ce : List (Str × Addr)) : Gm := ⟨K, fun c => He.ga K (cnm c), lamTab, ce, fun _ => (lawT K).2⟩
def xfl : List (Nat × Str) := ([(22, "code"), (22, "limit"), (14, "code"), (14, "at"), (4, "code"), (4, "given"), (11, "code"), (11, "given"), (15, "code"), (15, "given"), (9, "code"), (9, "given"), (8, "code"), (8, "given"), (16, "code"), (16, "line"), (12, "code"), (12, "at"), (3, "code"), (3, "at"), (10, "code"), (10, "name"), (5, "code"), (5, "at"), (13, "code"), (13, "at"), (7, "code"), (7, "given"), (1, "code"), (1, "given")] : List (Nat × Str)) ++ ([(0, "code"), (0, "given"), (2, "code"), (2, "given"), (6, "code"), (6, "given"), (21, "code"), (19, "code"), (25, "code"), (23, "code"), (23, "subject"), (23, "most"), (20, "code"), (24, "code"), (24, "name"), (18, "code"), (17, "code"), (17, "name")] : List (Nat × Str))
def xfs : Nat → Str → Bool := fldT xfl
def isxc : List Nat := [0, 1, 2, 3, 4, 5, 6, 7, 8, 9, 10, 11, 12, 13, 14, 15, 16, 17, 18, 19, 20, 21, 22, 23, 24, 25]
def isxu : List Nat := [26, 27, 0, 1, 2, 3, 4, 5, 6, 7, 8, 9, 10, 11, 12, 13, 14, 15, 16, 17, 18, 19, 20, 21, 22, 23, 24, 25]
def isxy : List String := ["ValueError", "LookupError", "IndexError"]
def isxo : Nat → Nat → Bool := fun c u => c == u || (u == 26 && [0, 1, 2, 3, 4, 5, 6, 7, 8, 9, 10, 11, 12, 13, 14, 15, 16, 17, 18, 19, 20, 21, 22, 23].contains c) || (u == 27 && [24].contains c)
def isxs : Nat → String → Bool := fun c s => (s == "ValueError" && [0, 1, 2, 3, 4, 5, 6, 7, 8, 9, 10, 11, 12, 13, 14, 15, 16, 17, 18, 19, 20, 21, 22, 23].contains c) || (s == "LookupError" && [24, 25].contains c) || (s == "IndexError" && [25].contains c)
def isx : Nat → D → Option Bool := isxT isxc isxu isxy isxo isxs
abbrev s__law_open : Stmt := top 30
def dd__law_open : He5.DefA := ⟨fun K => He.ga K "_law_open", "_law_open", "_law_open", defArgs s__law_open, defBody s__law_open, defScope s__law_open, [], []⟩
theorem sc__law_open : FnScope ["_law_script", "_law_mixed", "_law_cell"] ["_law_script"] (defScope s__law_open) := ⟨rfl, rfl, rfl, by decide +kernel, rfl, by decide +kernel, by decide +kernel⟩
abbrev s__law_draw : Stmt := top 31
def dd__law_draw : He5.DefA := ⟨fun K => He.ga K "_law_draw", "_law_draw", "_law_draw", defArgs s__law_draw, defBody s__law_draw, defScope s__law_draw, [], []⟩
theorem sc__law_draw : FnScope ["_law_bag", "_law_sides", "_law_cell", "_law_small", "_law_digit", "_law_seed", "_law_step"] ["_law_bag", "_law_sides"] (defScope s__law_draw) := ⟨rfl, rfl, rfl, by decide +kernel, rfl, by decide +kernel, by decide +kernel⟩
abbrev s__law_of : Stmt := top 32
def dd__law_of : He5.DefA := ⟨fun K => He.ga K "_law_of", "_law_of", "_law_of", defArgs s__law_of, defBody s__law_of, defScope s__law_of, [], []⟩
theorem sc__law_of : FnScope ["_law_bag", "_law_things"] ["_law_bag", "_law_things"] (defScope s__law_of) := ⟨rfl, rfl, rfl, by decide +kernel, rfl, by decide +kernel, by decide +kernel⟩
abbrev s__law_same : Stmt := top 33
def dd__law_same : He5.DefA := ⟨fun K => He.ga K "_law_same", "_law_same", "_law_same", defArgs s__law_same, defBody s__law_same, defScope s__law_same, [], []⟩
theorem sc__law_same : FnScope ["_law_found", "_law_due", "_law_a", "_law_b"] ["_law_found", "_law_due"] (defScope s__law_same) := ⟨rfl, rfl, rfl, by decide +kernel, rfl, by decide +kernel, by decide +kernel⟩
abbrev s__law_field : Stmt := top 34
def dd__law_field : He5.DefA := ⟨fun K => He.ga K "_law_field", "_law_field", "_law_field", defArgs s__law_field, defBody s__law_field, defScope s__law_field, [], []⟩
theorem sc__law_field : FnScope ["_law_e"] ["_law_e"] (defScope s__law_field) := ⟨rfl, rfl, rfl, by decide +kernel, rfl, by decide +kernel, by decide +kernel⟩
abbrev s__law_kinds_of : Stmt := top 35
def dd__law_kinds_of : He5.DefA := ⟨fun K => He.ga K "_law_kinds_of", "_law_kinds_of", "_law_kinds_of", defArgs s__law_kinds_of, defBody s__law_kinds_of, defScope s__law_kinds_of, [], []⟩
theorem sc__law_kinds_of : FnScope ["_law_e", "_law_first"] ["_law_e"] (defScope s__law_kinds_of) := ⟨rfl, rfl, rfl, by decide +kernel, rfl, by decide +kernel, by decide +kernel⟩
abbrev s_InvalidSymbols___init__ : Stmt := inClass (top 3) 0
def dd_InvalidSymbols___init__ : He5.DefA := ⟨fun K => He.ma K (He.ga K "InvalidSymbols") "__init__", "__init__", "InvalidSymbols.__init__", defArgs s_InvalidSymbols___init__, defBody s_InvalidSymbols___init__, defScope s_InvalidSymbols___init__, [], []⟩
theorem sc_InvalidSymbols___init__ : FnScope ["self", "given"] ["self", "given"] (defScope s_InvalidSymbols___init__) := ⟨rfl, rfl, rfl, by decide +kernel, rfl, by decide +kernel, by decide +kernel⟩
abbrev s_InvalidSymbol___init__ : Stmt := inClass (top 4) 0
def dd_InvalidSymbol___init__ : He5.DefA := ⟨fun K => He.ma K (He.ga K "InvalidSymbol") "__init__", "__init__", "InvalidSymbol.__init__", defArgs s_InvalidSymbol___init__, defBody s_InvalidSymbol___init__, defScope s_InvalidSymbol___init__, [], []⟩
theorem sc_InvalidSymbol___init__ : FnScope ["self", "given"] ["self", "given"] (defScope s_InvalidSymbol___init__) := ⟨rfl, rfl, rfl, by decide +kernel, rfl, by decide +kernel, by decide +kernel⟩
abbrev s_InvalidText___init__ : Stmt := inClass (top 5) 0
def dd_InvalidText___init__ : He5.DefA := ⟨fun K => He.ma K (He.ga K "InvalidText") "__init__", "__init__", "InvalidText.__init__", defArgs s_InvalidText___init__, defBody s_InvalidText___init__, defScope s_InvalidText___init__, [], []⟩
theorem sc_InvalidText___init__ : FnScope ["self", "given"] ["self", "given"] (defScope s_InvalidText___init__) := ⟨rfl, rfl, rfl, by decide +kernel, rfl, by decide +kernel, by decide +kernel⟩
abbrev s_InvalidPiece___init__ : Stmt := inClass (top 6) 0
def dd_InvalidPiece___init__ : He5.DefA := ⟨fun K => He.ma K (He.ga K "InvalidPiece") "__init__", "__init__", "InvalidPiece.__init__", defArgs s_InvalidPiece___init__, defBody s_InvalidPiece___init__, defScope s_InvalidPiece___init__, [], []⟩
theorem sc_InvalidPiece___init__ : FnScope ["self", "at"] ["self", "at"] (defScope s_InvalidPiece___init__) := ⟨rfl, rfl, rfl, by decide +kernel, rfl, by decide +kernel, by decide +kernel⟩
abbrev s_InvalidCost___init__ : Stmt := inClass (top 7) 0
def dd_InvalidCost___init__ : He5.DefA := ⟨fun K => He.ma K (He.ga K "InvalidCost") "__init__", "__init__", "InvalidCost.__init__", defArgs s_InvalidCost___init__, defBody s_InvalidCost___init__, defScope s_InvalidCost___init__, [], []⟩
theorem sc_InvalidCost___init__ : FnScope ["self", "given"] ["self", "given"] (defScope s_InvalidCost___init__) := ⟨rfl, rfl, rfl, by decide +kernel, rfl, by decide +kernel, by decide +kernel⟩
abbrev s_InvalidRow___init__ : Stmt := inClass (top 8) 0
def dd_InvalidRow___init__ : He5.DefA := ⟨fun K => He.ma K (He.ga K "InvalidRow") "__init__", "__init__", "InvalidRow.__init__", defArgs s_InvalidRow___init__, defBody s_InvalidRow___init__, defScope s_InvalidRow___init__, [], []⟩
theorem sc_InvalidRow___init__ : FnScope ["self", "at"] ["self", "at"] (defScope s_InvalidRow___init__) := ⟨rfl, rfl, rfl, by decide +kernel, rfl, by decide +kernel, by decide +kernel⟩
abbrev s_InvalidVerdict___init__ : Stmt := inClass (top 9) 0
def dd_InvalidVerdict___init__ : He5.DefA := ⟨fun K => He.ma K (He.ga K "InvalidVerdict") "__init__", "__init__", "InvalidVerdict.__init__", defArgs s_InvalidVerdict___init__, defBody s_InvalidVerdict___init__, defScope s_InvalidVerdict___init__, [], []⟩
theorem sc_InvalidVerdict___init__ : FnScope ["self", "given"] ["self", "given"] (defScope s_InvalidVerdict___init__) := ⟨rfl, rfl, rfl, by decide +kernel, rfl, by decide +kernel, by decide +kernel⟩
abbrev s_InvalidState___init__ : Stmt := inClass (top 10) 0
def dd_InvalidState___init__ : He5.DefA := ⟨fun K => He.ma K (He.ga K "InvalidState") "__init__", "__init__", "InvalidState.__init__", defArgs s_InvalidState___init__, defBody s_InvalidState___init__, defScope s_InvalidState___init__, [], []⟩
theorem sc_InvalidState___init__ : FnScope ["self", "given"] ["self", "given"] (defScope s_InvalidState___init__) := ⟨rfl, rfl, rfl, by decide +kernel, rfl, by decide +kernel, by decide +kernel⟩
abbrev s_InvalidNumber___init__ : Stmt := inClass (top 11) 0
def dd_InvalidNumber___init__ : He5.DefA := ⟨fun K => He.ma K (He.ga K "InvalidNumber") "__init__", "__init__", "InvalidNumber.__init__", defArgs s_InvalidNumber___init__, defBody s_InvalidNumber___init__, defScope s_InvalidNumber___init__, [], []⟩
theorem sc_InvalidNumber___init__ : FnScope ["self", "given"] ["self", "given"] (defScope s_InvalidNumber___init__) := ⟨rfl, rfl, rfl, by decide +kernel, rfl, by decide +kernel, by decide +kernel⟩
abbrev s_InvalidName___init__ : Stmt := inClass (top 12) 0
def dd_InvalidName___init__ : He5.DefA := ⟨fun K => He.ma K (He.ga K "InvalidName") "__init__", "__init__", "InvalidName.__init__", defArgs s_InvalidName___init__, defBody s_InvalidName___init__, defScope s_InvalidName___init__, [], []⟩
theorem sc_InvalidName___init__ : FnScope ["self", "given"] ["self", "given"] (defScope s_InvalidName___init__) := ⟨rfl, rfl, rfl, by decide +kernel, rfl, by decide +kernel, by decide +kernel⟩
abbrev s_InvalidReader___init__ : Stmt := inClass (top 13) 0
def dd_InvalidReader___init__ : He5.DefA := ⟨fun K => He.ma K (He.ga K "InvalidReader") "__init__", "__init__", "InvalidReader.__init__", defArgs s_InvalidReader___init__, defBody s_InvalidReader___init__, defScope s_InvalidReader___init__, [], []⟩
theorem sc_InvalidReader___init__ : FnScope ["self", "name"] ["self", "name"] (defScope s_InvalidReader___init__) := ⟨rfl, rfl, rfl, by decide +kernel, rfl, by decide +kernel, by decide +kernel⟩
abbrev s_InvalidKind___init__ : Stmt := inClass (top 14) 0
def dd_InvalidKind___init__ : He5.DefA := ⟨fun K => He.ma K (He.ga K "InvalidKind") "__init__", "__init__", "InvalidKind.__init__", defArgs s_InvalidKind___init__, defBody s_InvalidKind___init__, defScope s_InvalidKind___init__, [], []⟩
theorem sc_InvalidKind___init__ : FnScope ["self", "given"] ["self", "given"] (defScope s_InvalidKind___init__) := ⟨rfl, rfl, rfl, by decide +kernel, rfl, by decide +kernel, by decide +kernel⟩
abbrev s_InvalidPattern___init__ : Stmt := inClass (top 15) 0
def dd_InvalidPattern___init__ : He5.DefA := ⟨fun K => He.ma K (He.ga K "InvalidPattern") "__init__", "__init__", "InvalidPattern.__init__", defArgs s_InvalidPattern___init__, defBody s_InvalidPattern___init__, defScope s_InvalidPattern___init__, [], []⟩
theorem sc_InvalidPattern___init__ : FnScope ["self", "at"] ["self", "at"] (defScope s_InvalidPattern___init__) := ⟨rfl, rfl, rfl, by decide +kernel, rfl, by decide +kernel, by decide +kernel⟩
abbrev s_InvalidRule___init__ : Stmt := inClass (top 16) 0
def dd_InvalidRule___init__ : He5.DefA := ⟨fun K => He.ma K (He.ga K "InvalidRule") "__init__", "__init__", "InvalidRule.__init__", defArgs s_InvalidRule___init__, defBody s_InvalidRule___init__, defScope s_InvalidRule___init__, [], []⟩
theorem sc_InvalidRule___init__ : FnScope ["self", "at"] ["self", "at"] (defScope s_InvalidRule___init__) := ⟨rfl, rfl, rfl, by decide +kernel, rfl, by decide +kernel, by decide +kernel⟩
abbrev s_InvalidCommand___init__ : Stmt := inClass (top 17) 0
def dd_InvalidCommand___init__ : He5.DefA := ⟨fun K => He.ma K (He.ga K "InvalidCommand") "__init__", "__init__", "InvalidCommand.__init__", defArgs s_InvalidCommand___init__, defBody s_InvalidCommand___init__, defScope s_InvalidCommand___init__, [], []⟩
theorem sc_InvalidCommand___init__ : FnScope ["self", "at"] ["self", "at"] (defScope s_InvalidCommand___init__) := ⟨rfl, rfl, rfl, by decide +kernel, rfl, by decide +kernel, by decide +kernel⟩
abbrev s_InvalidLimit___init__ : Stmt := inClass (top 18) 0
def dd_InvalidLimit___init__ : He5.DefA := ⟨fun K => He.ma K (He.ga K "InvalidLimit") "__init__", "__init__", "InvalidLimit.__init__", defArgs s_InvalidLimit___init__, defBody s_InvalidLimit___init__, defScope s_InvalidLimit___init__, [], []⟩
theorem sc_InvalidLimit___init__ : FnScope ["self", "given"] ["self", "given"] (defScope s_InvalidLimit___init__) := ⟨rfl, rfl, rfl, by decide +kernel, rfl, by decide +kernel, by decide +kernel⟩
abbrev s_InvalidPage___init__ : Stmt := inClass (top 19) 0
def dd_InvalidPage___init__ : He5.DefA := ⟨fun K => He.ma K (He.ga K "InvalidPage") "__init__", "__init__", "InvalidPage.__init__", defArgs s_InvalidPage___init__, defBody s_InvalidPage___init__, defScope s_InvalidPage___init__, [], []⟩
theorem sc_InvalidPage___init__ : FnScope ["self", "line"] ["self", "line"] (defScope s_InvalidPage___init__) := ⟨rfl, rfl, rfl, by decide +kernel, rfl, by decide +kernel, by decide +kernel⟩
abbrev s_UnlikeSymbols___init__ : Stmt := inClass (top 20) 0
def dd_UnlikeSymbols___init__ : He5.DefA := ⟨fun K => He.ma K (He.ga K "UnlikeSymbols") "__init__", "__init__", "UnlikeSymbols.__init__", defArgs s_UnlikeSymbols___init__, defBody s_UnlikeSymbols___init__, defScope s_UnlikeSymbols___init__, [], []⟩
theorem sc_UnlikeSymbols___init__ : FnScope ["self", "name"] ["self", "name"] (defScope s_UnlikeSymbols___init__) := ⟨rfl, rfl, rfl, by decide +kernel, rfl, by decide +kernel, by decide +kernel⟩
abbrev s_UnlikeNames___init__ : Stmt := inClass (top 21) 0
def dd_UnlikeNames___init__ : He5.DefA := ⟨fun K => He.ma K (He.ga K "UnlikeNames") "__init__", "__init__", "UnlikeNames.__init__", defArgs s_UnlikeNames___init__, defBody s_UnlikeNames___init__, defScope s_UnlikeNames___init__, [], []⟩
theorem sc_UnlikeNames___init__ : FnScope ["self"] ["self"] (defScope s_UnlikeNames___init__) := ⟨rfl, rfl, rfl, by decide +kernel, rfl, by decide +kernel, by decide +kernel⟩
abbrev s_NotFewer___init__ : Stmt := inClass (top 22) 0
def dd_NotFewer___init__ : He5.DefA := ⟨fun K => He.ma K (He.ga K "NotFewer") "__init__", "__init__", "NotFewer.__init__", defArgs s_NotFewer___init__, defBody s_NotFewer___init__, defScope s_NotFewer___init__, [], []⟩
theorem sc_NotFewer___init__ : FnScope ["self"] ["self"] (defScope s_NotFewer___init__) := ⟨rfl, rfl, rfl, by decide +kernel, rfl, by decide +kernel, by decide +kernel⟩
abbrev s_Unfounded___init__ : Stmt := inClass (top 23) 0
def dd_Unfounded___init__ : He5.DefA := ⟨fun K => He.ma K (He.ga K "Unfounded") "__init__", "__init__", "Unfounded.__init__", defArgs s_Unfounded___init__, defBody s_Unfounded___init__, defScope s_Unfounded___init__, [], []⟩
theorem sc_Unfounded___init__ : FnScope ["self"] ["self"] (defScope s_Unfounded___init__) := ⟨rfl, rfl, rfl, by decide +kernel, rfl, by decide +kernel, by decide +kernel⟩
abbrev s_NoText___init__ : Stmt := inClass (top 24) 0
def dd_NoText___init__ : He5.DefA := ⟨fun K => He.ma K (He.ga K "NoText") "__init__", "__init__", "NoText.__init__", defArgs s_NoText___init__, defBody s_NoText___init__, defScope s_NoText___init__, [], []⟩
theorem sc_NoText___init__ : FnScope ["self"] ["self"] (defScope s_NoText___init__) := ⟨rfl, rfl, rfl, by decide +kernel, rfl, by decide +kernel, by decide +kernel⟩
abbrev s_Full___init__ : Stmt := inClass (top 25) 0
def dd_Full___init__ : He5.DefA := ⟨fun K => He.ma K (He.ga K "Full") "__init__", "__init__", "Full.__init__", defArgs s_Full___init__, defBody s_Full___init__, defScope s_Full___init__, [], []⟩
theorem sc_Full___init__ : FnScope ["self", "limit"] ["self", "limit"] (defScope s_Full___init__) := ⟨rfl, rfl, rfl, by decide +kernel, rfl, by decide +kernel, by decide +kernel⟩
abbrev s_TooMany___init__ : Stmt := inClass (top 26) 0
def dd_TooMany___init__ : He5.DefA := ⟨fun K => He.ma K (He.ga K "TooMany") "__init__", "__init__", "TooMany.__init__", defArgs s_TooMany___init__, defBody s_TooMany___init__, defScope s_TooMany___init__, [], []⟩
theorem sc_TooMany___init__ : FnScope ["self", "subject", "most"] ["self", "subject", "most"] (defScope s_TooMany___init__) := ⟨rfl, rfl, rfl, by decide +kernel, rfl, by decide +kernel, by decide +kernel⟩
abbrev s_UnknownName___init__ : Stmt := inClass (top 27) 0
def dd_UnknownName___init__ : He5.DefA := ⟨fun K => He.ma K (He.ga K "UnknownName") "__init__", "__init__", "UnknownName.__init__", defArgs s_UnknownName___init__, defBody s_UnknownName___init__, defScope s_UnknownName___init__, [], []⟩
theorem sc_UnknownName___init__ : FnScope ["self", "name"] ["self", "name"] (defScope s_UnknownName___init__) := ⟨rfl, rfl, rfl, by decide +kernel, rfl, by decide +kernel, by decide +kernel⟩
abbrev s_NothingLeft___init__ : Stmt := inClass (top 28) 0
def dd_NothingLeft___init__ : He5.DefA := ⟨fun K => He.ma K (He.ga K "NothingLeft") "__init__", "__init__", "NothingLeft.__init__", defArgs s_NothingLeft___init__, defBody s_NothingLeft___init__, defScope s_NothingLeft___init__, [], []⟩
theorem sc_NothingLeft___init__ : FnScope ["self"] ["self"] (defScope s_NothingLeft___init__) := ⟨rfl, rfl, rfl, by decide +kernel, rfl, by decide +kernel, by decide +kernel⟩
abbrev s_law : Stmt := top 36
def dd_law : He5.DefA := ⟨fun K => He.ga K "law", "law", "law", defArgs s_law, defBody s_law, defScope s_law, [], []⟩
theorem sc_law : FnScope ["_law_script", "_law_bag", "_law_one", "_law_two", "_law_some", "_law_codes", "_law_due", "_law_k", "_law_bases", "_law_late", "_law_e", "_law_j"] ["_law_script"] (defScope s_law) := ⟨rfl, rfl, rfl, by decide +kernel, rfl, by decide +kernel, by decide +kernel⟩
def fnl : List He5.DefA := [dd__law_open, dd__law_draw, dd__law_of, dd__law_same, dd__law_field, dd__law_kinds_of, dd_InvalidSymbols___init__, dd_InvalidSymbol___init__, dd_InvalidText___init__, dd_InvalidPiece___init__, dd_InvalidCost___init__, dd_InvalidRow___init__, dd_InvalidVerdict___init__, dd_InvalidState___init__, dd_InvalidNumber___init__, dd_InvalidName___init__, dd_InvalidReader___init__, dd_InvalidKind___init__, dd_InvalidPattern___init__, dd_InvalidRule___init__, dd_InvalidCommand___init__, dd_InvalidLimit___init__, dd_InvalidPage___init__, dd_UnlikeSymbols___init__, dd_UnlikeNames___init__, dd_NotFewer___init__, dd_Unfounded___init__, dd_NoText___init__, dd_Full___init__, dd_TooMany___init__, dd_UnknownName___init__, dd_NothingLeft___init__, dd_law]
def chkl (K : PySem.W.Frag) : List Bool := [(He.Fa.glo "_law_open").ok K,
  (He.Fa.glo "_law_draw").ok K,
  (He.Fa.glo "_law_of").ok K,
  (He.Fa.glo "_law_same").ok K,
  (He.Fa.glo "_law_field").ok K,
  (He.Fa.glo "_law_kinds_of").ok K,
  (He.Fa.glo "law").ok K,
  clsAll K cnm ncl sub,
  fldAll K cnm fldl,
  konAll K cnm konl,
  xeBB K (He.ga K "FromError") .ve,
  vIB K,
  xeBB K (He.ga K "Missing") .le,
  (He.Fa.glo "Full").ok K,
  excXB K (He.ga K "Full") .ve ["limit"],
  He.eqO (PySem.W.findIn K (.ref (He.ga K "Full")) "__init__") (some (some (.ref (He.ma K (He.ga K "Full") "__init__")))),
  decide (PySem.W.typeIn K (.ref (He.ma K (He.ga K "Full") "__init__")) = some (.type "function")),
  (He.Fa.glo "InvalidCommand").ok K,
  excXB K (He.ga K "InvalidCommand") .ve ["at"],
  He.eqO (PySem.W.findIn K (.ref (He.ga K "InvalidCommand")) "__init__") (some (some (.ref (He.ma K (He.ga K "InvalidCommand") "__init__")))),
  decide (PySem.W.typeIn K (.ref (He.ma K (He.ga K "InvalidCommand") "__init__")) = some (.type "function")),
  (He.Fa.glo "InvalidCost").ok K,
  excXB K (He.ga K "InvalidCost") .ve ["given"],
  He.eqO (PySem.W.findIn K (.ref (He.ga K "InvalidCost")) "__init__") (some (some (.ref (He.ma K (He.ga K "InvalidCost") "__init__")))),
  decide (PySem.W.typeIn K (.ref (He.ma K (He.ga K "InvalidCost") "__init__")) = some (.type "function")),
  (He.Fa.glo "InvalidKind").ok K,
  excXB K (He.ga K "InvalidKind") .ve ["given"],
  He.eqO (PySem.W.findIn K (.ref (He.ga K "InvalidKind")) "__init__") (some (some (.ref (He.ma K (He.ga K "InvalidKind") "__init__")))),
  decide (PySem.W.typeIn K (.ref (He.ma K (He.ga K "InvalidKind") "__init__")) = some (.type "function")),
  (He.Fa.glo "InvalidLimit").ok K,
  excXB K (He.ga K "InvalidLimit") .ve ["given"],
  He.eqO (PySem.W.findIn K (.ref (He.ga K "InvalidLimit")) "__init__") (some (some (.ref (He.ma K (He.ga K "InvalidLimit") "__init__")))),
  decide (PySem.W.typeIn K (.ref (He.ma K (He.ga K "InvalidLimit") "__init__")) = some (.type "function")),
  (He.Fa.glo "InvalidName").ok K,
  excXB K (He.ga K "InvalidName") .ve ["given"],
  He.eqO (PySem.W.findIn K (.ref (He.ga K "InvalidName")) "__init__") (some (some (.ref (He.ma K (He.ga K "InvalidName") "__init__")))),
  decide (PySem.W.typeIn K (.ref (He.ma K (He.ga K "InvalidName") "__init__")) = some (.type "function")),
  (He.Fa.glo "InvalidNumber").ok K,
  excXB K (He.ga K "InvalidNumber") .ve ["given"],
  He.eqO (PySem.W.findIn K (.ref (He.ga K "InvalidNumber")) "__init__") (some (some (.ref (He.ma K (He.ga K "InvalidNumber") "__init__")))),
  decide (PySem.W.typeIn K (.ref (He.ma K (He.ga K "InvalidNumber") "__init__")) = some (.type "function")),
  (He.Fa.glo "InvalidPage").ok K,
  excXB K (He.ga K "InvalidPage") .ve ["line"],
  He.eqO (PySem.W.findIn K (.ref (He.ga K "InvalidPage")) "__init__") (some (some (.ref (He.ma K (He.ga K "InvalidPage") "__init__")))),
  decide (PySem.W.typeIn K (.ref (He.ma K (He.ga K "InvalidPage") "__init__")) = some (.type "function")),
  (He.Fa.glo "InvalidPattern").ok K,
  excXB K (He.ga K "InvalidPattern") .ve ["at"],
  He.eqO (PySem.W.findIn K (.ref (He.ga K "InvalidPattern")) "__init__") (some (some (.ref (He.ma K (He.ga K "InvalidPattern") "__init__")))),
  decide (PySem.W.typeIn K (.ref (He.ma K (He.ga K "InvalidPattern") "__init__")) = some (.type "function")),
  (He.Fa.glo "InvalidPiece").ok K,
  excXB K (He.ga K "InvalidPiece") .ve ["at"],
  He.eqO (PySem.W.findIn K (.ref (He.ga K "InvalidPiece")) "__init__") (some (some (.ref (He.ma K (He.ga K "InvalidPiece") "__init__")))),
  decide (PySem.W.typeIn K (.ref (He.ma K (He.ga K "InvalidPiece") "__init__")) = some (.type "function")),
  (He.Fa.glo "InvalidReader").ok K,
  excXB K (He.ga K "InvalidReader") .ve ["name"],
  He.eqO (PySem.W.findIn K (.ref (He.ga K "InvalidReader")) "__init__") (some (some (.ref (He.ma K (He.ga K "InvalidReader") "__init__")))),
  decide (PySem.W.typeIn K (.ref (He.ma K (He.ga K "InvalidReader") "__init__")) = some (.type "function")),
  (He.Fa.glo "InvalidRow").ok K,
  excXB K (He.ga K "InvalidRow") .ve ["at"],
  He.eqO (PySem.W.findIn K (.ref (He.ga K "InvalidRow")) "__init__") (some (some (.ref (He.ma K (He.ga K "InvalidRow") "__init__")))),
  decide (PySem.W.typeIn K (.ref (He.ma K (He.ga K "InvalidRow") "__init__")) = some (.type "function")),
  (He.Fa.glo "InvalidRule").ok K,
  excXB K (He.ga K "InvalidRule") .ve ["at"],
  He.eqO (PySem.W.findIn K (.ref (He.ga K "InvalidRule")) "__init__") (some (some (.ref (He.ma K (He.ga K "InvalidRule") "__init__")))),
  decide (PySem.W.typeIn K (.ref (He.ma K (He.ga K "InvalidRule") "__init__")) = some (.type "function")),
  (He.Fa.glo "InvalidState").ok K,
  excXB K (He.ga K "InvalidState") .ve ["given"],
  He.eqO (PySem.W.findIn K (.ref (He.ga K "InvalidState")) "__init__") (some (some (.ref (He.ma K (He.ga K "InvalidState") "__init__")))),
  decide (PySem.W.typeIn K (.ref (He.ma K (He.ga K "InvalidState") "__init__")) = some (.type "function")),
  (He.Fa.glo "InvalidSymbol").ok K,
  excXB K (He.ga K "InvalidSymbol") .ve ["given"],
  He.eqO (PySem.W.findIn K (.ref (He.ga K "InvalidSymbol")) "__init__") (some (some (.ref (He.ma K (He.ga K "InvalidSymbol") "__init__")))),
  decide (PySem.W.typeIn K (.ref (He.ma K (He.ga K "InvalidSymbol") "__init__")) = some (.type "function")),
  (He.Fa.glo "InvalidSymbols").ok K,
  excXB K (He.ga K "InvalidSymbols") .ve ["given"],
  He.eqO (PySem.W.findIn K (.ref (He.ga K "InvalidSymbols")) "__init__") (some (some (.ref (He.ma K (He.ga K "InvalidSymbols") "__init__")))),
  decide (PySem.W.typeIn K (.ref (He.ma K (He.ga K "InvalidSymbols") "__init__")) = some (.type "function")),
  (He.Fa.glo "InvalidText").ok K,
  excXB K (He.ga K "InvalidText") .ve ["given"],
  He.eqO (PySem.W.findIn K (.ref (He.ga K "InvalidText")) "__init__") (some (some (.ref (He.ma K (He.ga K "InvalidText") "__init__")))),
  decide (PySem.W.typeIn K (.ref (He.ma K (He.ga K "InvalidText") "__init__")) = some (.type "function")),
  (He.Fa.glo "InvalidVerdict").ok K,
  excXB K (He.ga K "InvalidVerdict") .ve ["given"],
  He.eqO (PySem.W.findIn K (.ref (He.ga K "InvalidVerdict")) "__init__") (some (some (.ref (He.ma K (He.ga K "InvalidVerdict") "__init__")))),
  decide (PySem.W.typeIn K (.ref (He.ma K (He.ga K "InvalidVerdict") "__init__")) = some (.type "function")),
  (He.Fa.glo "NoText").ok K,
  excXB K (He.ga K "NoText") .ve [],
  He.eqO (PySem.W.findIn K (.ref (He.ga K "NoText")) "__init__") (some (some (.ref (He.ma K (He.ga K "NoText") "__init__")))),
  decide (PySem.W.typeIn K (.ref (He.ma K (He.ga K "NoText") "__init__")) = some (.type "function")),
  (He.Fa.glo "NotFewer").ok K,
  excXB K (He.ga K "NotFewer") .ve [],
  He.eqO (PySem.W.findIn K (.ref (He.ga K "NotFewer")) "__init__") (some (some (.ref (He.ma K (He.ga K "NotFewer") "__init__")))),
  decide (PySem.W.typeIn K (.ref (He.ma K (He.ga K "NotFewer") "__init__")) = some (.type "function")),
  (He.Fa.glo "NothingLeft").ok K,
  excXB K (He.ga K "NothingLeft") .ie [],
  He.eqO (PySem.W.findIn K (.ref (He.ga K "NothingLeft")) "__init__") (some (some (.ref (He.ma K (He.ga K "NothingLeft") "__init__")))),
  decide (PySem.W.typeIn K (.ref (He.ma K (He.ga K "NothingLeft") "__init__")) = some (.type "function")),
  (He.Fa.glo "TooMany").ok K,
  excXB K (He.ga K "TooMany") .ve ["subject", "most"],
  He.eqO (PySem.W.findIn K (.ref (He.ga K "TooMany")) "__init__") (some (some (.ref (He.ma K (He.ga K "TooMany") "__init__")))),
  decide (PySem.W.typeIn K (.ref (He.ma K (He.ga K "TooMany") "__init__")) = some (.type "function")),
  (He.Fa.glo "Unfounded").ok K,
  excXB K (He.ga K "Unfounded") .ve [],
  He.eqO (PySem.W.findIn K (.ref (He.ga K "Unfounded")) "__init__") (some (some (.ref (He.ma K (He.ga K "Unfounded") "__init__")))),
  decide (PySem.W.typeIn K (.ref (He.ma K (He.ga K "Unfounded") "__init__")) = some (.type "function")),
  (He.Fa.glo "UnknownName").ok K,
  excXB K (He.ga K "UnknownName") .le ["name"],
  He.eqO (PySem.W.findIn K (.ref (He.ga K "UnknownName")) "__init__") (some (some (.ref (He.ma K (He.ga K "UnknownName") "__init__")))),
  decide (PySem.W.typeIn K (.ref (He.ma K (He.ga K "UnknownName") "__init__")) = some (.type "function")),
  (He.Fa.glo "UnlikeNames").ok K,
  excXB K (He.ga K "UnlikeNames") .ve [],
  He.eqO (PySem.W.findIn K (.ref (He.ga K "UnlikeNames")) "__init__") (some (some (.ref (He.ma K (He.ga K "UnlikeNames") "__init__")))),
  decide (PySem.W.typeIn K (.ref (He.ma K (He.ga K "UnlikeNames") "__init__")) = some (.type "function")),
  (He.Fa.glo "UnlikeSymbols").ok K,
  excXB K (He.ga K "UnlikeSymbols") .ve ["name"],
  He.eqO (PySem.W.findIn K (.ref (He.ga K "UnlikeSymbols")) "__init__") (some (some (.ref (He.ma K (He.ga K "UnlikeSymbols") "__init__")))),
  decide (PySem.W.typeIn K (.ref (He.ma K (He.ga K "UnlikeSymbols") "__init__")) = some (.type "function")),
  xfAll K cnm xfl,
  isxAll K cnm isxc isxu isxy isxo isxs,
  (He.Fa.glo "FromError").ok K,
  (He.Fa.glo "Missing").ok K,
  (He.Fa.free "IndexError").ok K,
  (He.Fa.free "LookupError").ok K,
  (He.Fa.free "ValueError").ok K,
  (He.Fa.free "abs").ok K,
  (He.Fa.free "all").ok K,
  (He.Fa.free "bool").ok K,
  (He.Fa.free "int").ok K,
  (He.Fa.free "isinstance").ok K,
  (He.Fa.free "len").ok K,
  (He.Fa.free "list").ok K,
  (He.Fa.free "range").ok K,
  (He.Fa.free "str").ok K,
  (He.Fa.free "tuple").ok K,
  (He.Fa.free "zip").ok K]
def chk (K : PySem.W.Frag) : Bool := (chkl K).all fun b => b
def nms : List Str := (["FromError", "Missing", "InvalidSymbols", "InvalidSymbol", "InvalidText", "InvalidPiece", "InvalidCost", "InvalidRow", "InvalidVerdict", "InvalidState", "InvalidNumber", "InvalidName", "InvalidReader", "InvalidKind", "InvalidPattern", "InvalidRule", "InvalidCommand", "InvalidLimit", "InvalidPage", "UnlikeSymbols"] : List Str) ++ (["UnlikeNames", "NotFewer", "Unfounded", "NoText", "Full", "TooMany", "UnknownName", "NothingLeft", "_law_open", "_law_draw", "_law_of", "_law_same", "_law_field", "_law_kinds_of"] : List Str)
abbrev R : PySem.W.OpenRow := PySem.W.OpenLaw.row PySem.Challenge.rw_rightfrom_k01_errors_by_themselves
abbrev hk : PySem.W.Hook := hookY 5 chk fnl
def ob (s : PySem.W.SharedT) : He.AlD := obsYG 5 chk fnl (HandSHeadRun.getT s)
theorem ob_eq (s : PySem.W.SharedT) : ob s = hk.obs s.abs := obsYG_eq (HandSHeadRun.getT_eq s)
section
open PySem.W PySem.Calls
theorem run1 (w : World) (os : OsState) : (HandSHeadRun.endF (HandSHeadRun.stepQ (HandSHeadRun.denQ HandSHeadRun.tabQ) R.prog w) 20000 R.prog w os).map (fun s => (HandSHeadRun.looksF R.prog (boot_heap w.params) s.abs, HandSHeadRun.seenQ (PySem.W.view R.prog [36]) nms (importedModules R.prog.main.body) (fun s => PySem.W.xlAt (PySem.W.view R.prog [36]) [] s && PySem.W.recOk R.toRowW.records s) s.abs)) = some (true, PySem.W.openGood (PySem.W.view R.prog [36]) nms) := by
  kernel_rfl
theorem run2 (w : World) (os : OsState) : (HandSHeadRun.endF (HandSHeadRun.stepQ (HandSHeadRun.denQ HandSHeadRun.tabQ) R.prog w) 20000 R.prog w os).map (fun s => ob s) = some (hk.val w) := by
  kernel_rfl
theorem run (w : World) : HandSHeadRun.RunEq R (PySem.W.view R.prog [36]) hk ob 20000 nms w := fun os => by iterate
  have h1 := run1 w os
  have h2 := run2 w os
  cases e : (HandSHeadRun.endF (HandSHeadRun.stepQ (HandSHeadRun.denQ HandSHeadRun.tabQ) R.prog w) 20000 R.prog w os) with
  | none => rw [e] at h1; cases h1
  | some s =>
    rw [e] at h1 h2
    have h1 := Option.some.inj h1
    have h2 : ob s = hk.val w := Option.some.inj h2
    obtain ⟨a, b⟩ := Prod.mk.inj h1
    exact congrArg some (Prod.ext a (Prod.ext b h2))
end
structure Tx (K : PySem.W.Frag) (mg : Str → Option Value) : Prop where
  g__law_open : mg "_law_open" = some (.ref (He.ga K "_law_open"))
  g__law_draw : mg "_law_draw" = some (.ref (He.ga K "_law_draw"))
  g__law_of : mg "_law_of" = some (.ref (He.ga K "_law_of"))
  g__law_same : mg "_law_same" = some (.ref (He.ga K "_law_same"))
  g__law_field : mg "_law_field" = some (.ref (He.ga K "_law_field"))
  g__law_kinds_of : mg "_law_kinds_of" = some (.ref (He.ga K "_law_kinds_of"))
  g_law : mg "law" = some (.ref (He.ga K "law"))
  ct_ : ∀ ce, ClT (Gk K ce) ncl sub
  ft_ : ∀ ce, FT (Gk K ce) flds
  kt_ : ∀ ce, KonT (Gk K ce) kons
  xe_FromError : XeB K (He.ga K "FromError") .ve
  vi_ : PySem.W.findCls K (.type "IndexError") (.type "type") "__init__" = some (.val (.builtin "IndexError.__init__"))
  xe_Missing : XeB K (He.ga K "Missing") .le
  g_Full : mg "Full" = some (.ref (He.ga K "Full"))
  ex_Full : ExcX K (He.ga K "Full") .ve ["limit"]
  ei_Full : PySem.W.findIn K (.ref (He.ga K "Full")) "__init__" = some (some (.ref (He.ma K (He.ga K "Full") "__init__")))
  et_Full : PySem.W.typeIn K (.ref (He.ma K (He.ga K "Full") "__init__")) = some (.type "function")
  g_InvalidCommand : mg "InvalidCommand" = some (.ref (He.ga K "InvalidCommand"))
  ex_InvalidCommand : ExcX K (He.ga K "InvalidCommand") .ve ["at"]
  ei_InvalidCommand : PySem.W.findIn K (.ref (He.ga K "InvalidCommand")) "__init__" = some (some (.ref (He.ma K (He.ga K "InvalidCommand") "__init__")))
  et_InvalidCommand : PySem.W.typeIn K (.ref (He.ma K (He.ga K "InvalidCommand") "__init__")) = some (.type "function")
  g_InvalidCost : mg "InvalidCost" = some (.ref (He.ga K "InvalidCost"))
  ex_InvalidCost : ExcX K (He.ga K "InvalidCost") .ve ["given"]
  ei_InvalidCost : PySem.W.findIn K (.ref (He.ga K "InvalidCost")) "__init__" = some (some (.ref (He.ma K (He.ga K "InvalidCost") "__init__")))
  et_InvalidCost : PySem.W.typeIn K (.ref (He.ma K (He.ga K "InvalidCost") "__init__")) = some (.type "function")
  g_InvalidKind : mg "InvalidKind" = some (.ref (He.ga K "InvalidKind"))
  ex_InvalidKind : ExcX K (He.ga K "InvalidKind") .ve ["given"]
  ei_InvalidKind : PySem.W.findIn K (.ref (He.ga K "InvalidKind")) "__init__" = some (some (.ref (He.ma K (He.ga K "InvalidKind") "__init__")))
  et_InvalidKind : PySem.W.typeIn K (.ref (He.ma K (He.ga K "InvalidKind") "__init__")) = some (.type "function")
  g_InvalidLimit : mg "InvalidLimit" = some (.ref (He.ga K "InvalidLimit"))
  ex_InvalidLimit : ExcX K (He.ga K "InvalidLimit") .ve ["given"]
  ei_InvalidLimit : PySem.W.findIn K (.ref (He.ga K "InvalidLimit")) "__init__" = some (some (.ref (He.ma K (He.ga K "InvalidLimit") "__init__")))
  et_InvalidLimit : PySem.W.typeIn K (.ref (He.ma K (He.ga K "InvalidLimit") "__init__")) = some (.type "function")
  g_InvalidName : mg "InvalidName" = some (.ref (He.ga K "InvalidName"))
  ex_InvalidName : ExcX K (He.ga K "InvalidName") .ve ["given"]
  ei_InvalidName : PySem.W.findIn K (.ref (He.ga K "InvalidName")) "__init__" = some (some (.ref (He.ma K (He.ga K "InvalidName") "__init__")))
  et_InvalidName : PySem.W.typeIn K (.ref (He.ma K (He.ga K "InvalidName") "__init__")) = some (.type "function")
  g_InvalidNumber : mg "InvalidNumber" = some (.ref (He.ga K "InvalidNumber"))
  ex_InvalidNumber : ExcX K (He.ga K "InvalidNumber") .ve ["given"]
  ei_InvalidNumber : PySem.W.findIn K (.ref (He.ga K "InvalidNumber")) "__init__" = some (some (.ref (He.ma K (He.ga K "InvalidNumber") "__init__")))
  et_InvalidNumber : PySem.W.typeIn K (.ref (He.ma K (He.ga K "InvalidNumber") "__init__")) = some (.type "function")
  g_InvalidPage : mg "InvalidPage" = some (.ref (He.ga K "InvalidPage"))
  ex_InvalidPage : ExcX K (He.ga K "InvalidPage") .ve ["line"]
  ei_InvalidPage : PySem.W.findIn K (.ref (He.ga K "InvalidPage")) "__init__" = some (some (.ref (He.ma K (He.ga K "InvalidPage") "__init__")))
  et_InvalidPage : PySem.W.typeIn K (.ref (He.ma K (He.ga K "InvalidPage") "__init__")) = some (.type "function")
  g_InvalidPattern : mg "InvalidPattern" = some (.ref (He.ga K "InvalidPattern"))
  ex_InvalidPattern : ExcX K (He.ga K "InvalidPattern") .ve ["at"]
  ei_InvalidPattern : PySem.W.findIn K (.ref (He.ga K "InvalidPattern")) "__init__" = some (some (.ref (He.ma K (He.ga K "InvalidPattern") "__init__")))
  et_InvalidPattern : PySem.W.typeIn K (.ref (He.ma K (He.ga K "InvalidPattern") "__init__")) = some (.type "function")
  g_InvalidPiece : mg "InvalidPiece" = some (.ref (He.ga K "InvalidPiece"))
  ex_InvalidPiece : ExcX K (He.ga K "InvalidPiece") .ve ["at"]
  ei_InvalidPiece : PySem.W.findIn K (.ref (He.ga K "InvalidPiece")) "__init__" = some (some (.ref (He.ma K (He.ga K "InvalidPiece") "__init__")))
  et_InvalidPiece : PySem.W.typeIn K (.ref (He.ma K (He.ga K "InvalidPiece") "__init__")) = some (.type "function")
  g_InvalidReader : mg "InvalidReader" = some (.ref (He.ga K "InvalidReader"))
  ex_InvalidReader : ExcX K (He.ga K "InvalidReader") .ve ["name"]
  ei_InvalidReader : PySem.W.findIn K (.ref (He.ga K "InvalidReader")) "__init__" = some (some (.ref (He.ma K (He.ga K "InvalidReader") "__init__")))
  et_InvalidReader : PySem.W.typeIn K (.ref (He.ma K (He.ga K "InvalidReader") "__init__")) = some (.type "function")
  g_InvalidRow : mg "InvalidRow" = some (.ref (He.ga K "InvalidRow"))
  ex_InvalidRow : ExcX K (He.ga K "InvalidRow") .ve ["at"]
  ei_InvalidRow : PySem.W.findIn K (.ref (He.ga K "InvalidRow")) "__init__" = some (some (.ref (He.ma K (He.ga K "InvalidRow") "__init__")))
  et_InvalidRow : PySem.W.typeIn K (.ref (He.ma K (He.ga K "InvalidRow") "__init__")) = some (.type "function")
  g_InvalidRule : mg "InvalidRule" = some (.ref (He.ga K "InvalidRule"))
  ex_InvalidRule : ExcX K (He.ga K "InvalidRule") .ve ["at"]
  ei_InvalidRule : PySem.W.findIn K (.ref (He.ga K "InvalidRule")) "__init__" = some (some (.ref (He.ma K (He.ga K "InvalidRule") "__init__")))
  et_InvalidRule : PySem.W.typeIn K (.ref (He.ma K (He.ga K "InvalidRule") "__init__")) = some (.type "function")
  g_InvalidState : mg "InvalidState" = some (.ref (He.ga K "InvalidState"))
  ex_InvalidState : ExcX K (He.ga K "InvalidState") .ve ["given"]
  ei_InvalidState : PySem.W.findIn K (.ref (He.ga K "InvalidState")) "__init__" = some (some (.ref (He.ma K (He.ga K "InvalidState") "__init__")))
  et_InvalidState : PySem.W.typeIn K (.ref (He.ma K (He.ga K "InvalidState") "__init__")) = some (.type "function")
  g_InvalidSymbol : mg "InvalidSymbol" = some (.ref (He.ga K "InvalidSymbol"))
  ex_InvalidSymbol : ExcX K (He.ga K "InvalidSymbol") .ve ["given"]
  ei_InvalidSymbol : PySem.W.findIn K (.ref (He.ga K "InvalidSymbol")) "__init__" = some (some (.ref (He.ma K (He.ga K "InvalidSymbol") "__init__")))
  et_InvalidSymbol : PySem.W.typeIn K (.ref (He.ma K (He.ga K "InvalidSymbol") "__init__")) = some (.type "function")
  g_InvalidSymbols : mg "InvalidSymbols" = some (.ref (He.ga K "InvalidSymbols"))
  ex_InvalidSymbols : ExcX K (He.ga K "InvalidSymbols") .ve ["given"]
  ei_InvalidSymbols : PySem.W.findIn K (.ref (He.ga K "InvalidSymbols")) "__init__" = some (some (.ref (He.ma K (He.ga K "InvalidSymbols") "__init__")))
  et_InvalidSymbols : PySem.W.typeIn K (.ref (He.ma K (He.ga K "InvalidSymbols") "__init__")) = some (.type "function")
  g_InvalidText : mg "InvalidText" = some (.ref (He.ga K "InvalidText"))
  ex_InvalidText : ExcX K (He.ga K "InvalidText") .ve ["given"]
  ei_InvalidText : PySem.W.findIn K (.ref (He.ga K "InvalidText")) "__init__" = some (some (.ref (He.ma K (He.ga K "InvalidText") "__init__")))
  et_InvalidText : PySem.W.typeIn K (.ref (He.ma K (He.ga K "InvalidText") "__init__")) = some (.type "function")
  g_InvalidVerdict : mg "InvalidVerdict" = some (.ref (He.ga K "InvalidVerdict"))
  ex_InvalidVerdict : ExcX K (He.ga K "InvalidVerdict") .ve ["given"]
  ei_InvalidVerdict : PySem.W.findIn K (.ref (He.ga K "InvalidVerdict")) "__init__" = some (some (.ref (He.ma K (He.ga K "InvalidVerdict") "__init__")))
  et_InvalidVerdict : PySem.W.typeIn K (.ref (He.ma K (He.ga K "InvalidVerdict") "__init__")) = some (.type "function")
  g_NoText : mg "NoText" = some (.ref (He.ga K "NoText"))
  ex_NoText : ExcX K (He.ga K "NoText") .ve []
  ei_NoText : PySem.W.findIn K (.ref (He.ga K "NoText")) "__init__" = some (some (.ref (He.ma K (He.ga K "NoText") "__init__")))
  et_NoText : PySem.W.typeIn K (.ref (He.ma K (He.ga K "NoText") "__init__")) = some (.type "function")
  g_NotFewer : mg "NotFewer" = some (.ref (He.ga K "NotFewer"))
  ex_NotFewer : ExcX K (He.ga K "NotFewer") .ve []
  ei_NotFewer : PySem.W.findIn K (.ref (He.ga K "NotFewer")) "__init__" = some (some (.ref (He.ma K (He.ga K "NotFewer") "__init__")))
  et_NotFewer : PySem.W.typeIn K (.ref (He.ma K (He.ga K "NotFewer") "__init__")) = some (.type "function")
  g_NothingLeft : mg "NothingLeft" = some (.ref (He.ga K "NothingLeft"))
  ex_NothingLeft : ExcX K (He.ga K "NothingLeft") .ie []
  ei_NothingLeft : PySem.W.findIn K (.ref (He.ga K "NothingLeft")) "__init__" = some (some (.ref (He.ma K (He.ga K "NothingLeft") "__init__")))
  et_NothingLeft : PySem.W.typeIn K (.ref (He.ma K (He.ga K "NothingLeft") "__init__")) = some (.type "function")
  g_TooMany : mg "TooMany" = some (.ref (He.ga K "TooMany"))
  ex_TooMany : ExcX K (He.ga K "TooMany") .ve ["subject", "most"]
  ei_TooMany : PySem.W.findIn K (.ref (He.ga K "TooMany")) "__init__" = some (some (.ref (He.ma K (He.ga K "TooMany") "__init__")))
  et_TooMany : PySem.W.typeIn K (.ref (He.ma K (He.ga K "TooMany") "__init__")) = some (.type "function")
  g_Unfounded : mg "Unfounded" = some (.ref (He.ga K "Unfounded"))
  ex_Unfounded : ExcX K (He.ga K "Unfounded") .ve []
  ei_Unfounded : PySem.W.findIn K (.ref (He.ga K "Unfounded")) "__init__" = some (some (.ref (He.ma K (He.ga K "Unfounded") "__init__")))
  et_Unfounded : PySem.W.typeIn K (.ref (He.ma K (He.ga K "Unfounded") "__init__")) = some (.type "function")
  g_UnknownName : mg "UnknownName" = some (.ref (He.ga K "UnknownName"))
  ex_UnknownName : ExcX K (He.ga K "UnknownName") .le ["name"]
  ei_UnknownName : PySem.W.findIn K (.ref (He.ga K "UnknownName")) "__init__" = some (some (.ref (He.ma K (He.ga K "UnknownName") "__init__")))
  et_UnknownName : PySem.W.typeIn K (.ref (He.ma K (He.ga K "UnknownName") "__init__")) = some (.type "function")
  g_UnlikeNames : mg "UnlikeNames" = some (.ref (He.ga K "UnlikeNames"))
  ex_UnlikeNames : ExcX K (He.ga K "UnlikeNames") .ve []
  ei_UnlikeNames : PySem.W.findIn K (.ref (He.ga K "UnlikeNames")) "__init__" = some (some (.ref (He.ma K (He.ga K "UnlikeNames") "__init__")))
  et_UnlikeNames : PySem.W.typeIn K (.ref (He.ma K (He.ga K "UnlikeNames") "__init__")) = some (.type "function")
  g_UnlikeSymbols : mg "UnlikeSymbols" = some (.ref (He.ga K "UnlikeSymbols"))
  ex_UnlikeSymbols : ExcX K (He.ga K "UnlikeSymbols") .ve ["name"]
  ei_UnlikeSymbols : PySem.W.findIn K (.ref (He.ga K "UnlikeSymbols")) "__init__" = some (some (.ref (He.ma K (He.ga K "UnlikeSymbols") "__init__")))
  et_UnlikeSymbols : PySem.W.typeIn K (.ref (He.ma K (He.ga K "UnlikeSymbols") "__init__")) = some (.type "function")
  xt : ∀ ce, XT (Gk K ce) xfs
  isx : ∀ ce, IsXT (Gk K ce) isx
  g_FromError : mg "FromError" = some (.ref (He.ga K "FromError"))
  g_Missing : mg "Missing" = some (.ref (He.ga K "Missing"))
  f_IndexError : mg "IndexError" = none
  f_LookupError : mg "LookupError" = none
  f_ValueError : mg "ValueError" = none
  f_abs : mg "abs" = none
  f_all : mg "all" = none
  f_bool : mg "bool" = none
  f_int : mg "int" = none
  f_isinstance : mg "isinstance" = none
  f_len : mg "len" = none
  f_list : mg "list" = none
  f_range : mg "range" = none
  f_str : mg "str" = none
  f_tuple : mg "tuple" = none
  f_zip : mg "zip" = none
theorem tx_of {K : PySem.W.Frag} {hp : Heap} {mg : Str → Option Value} (X : K.In hp) (G : hp.Ns mainGlobals mg) (c : chk K = true) : Tx K mg := by iterate
  have h {b} i := @chk_at (chkl K) c i b
  exact ⟨He.glo_ok X G (h 0 rfl),
    He.glo_ok X G (h 1 rfl),
    He.glo_ok X G (h 2 rfl),
    He.glo_ok X G (h 3 rfl),
    He.glo_ok X G (h 4 rfl),
    He.glo_ok X G (h 5 rfl),
    He.glo_ok X G (h 6 rfl),
    fun _ => clT_of (h 7 rfl),
    fun _ => ft_of (h 8 rfl),
    fun _ => kon_of (h 9 rfl),
    xeBB_ok (h 10 rfl),
    vIB_ok (h 11 rfl),
    xeBB_ok (h 12 rfl),
    He.glo_ok X G (h 13 rfl),
    excXB_ok (h 14 rfl),
    He.eqO_ok (h 15 rfl),
    of_decide_eq_true (h 16 rfl),
    He.glo_ok X G (h 17 rfl),
    excXB_ok (h 18 rfl),
    He.eqO_ok (h 19 rfl),
    of_decide_eq_true (h 20 rfl),
    He.glo_ok X G (h 21 rfl),
    excXB_ok (h 22 rfl),
    He.eqO_ok (h 23 rfl),
    of_decide_eq_true (h 24 rfl),
    He.glo_ok X G (h 25 rfl),
    excXB_ok (h 26 rfl),
    He.eqO_ok (h 27 rfl),
    of_decide_eq_true (h 28 rfl),
    He.glo_ok X G (h 29 rfl),
    excXB_ok (h 30 rfl),
    He.eqO_ok (h 31 rfl),
    of_decide_eq_true (h 32 rfl),
    He.glo_ok X G (h 33 rfl),
    excXB_ok (h 34 rfl),
    He.eqO_ok (h 35 rfl),
    of_decide_eq_true (h 36 rfl),
    He.glo_ok X G (h 37 rfl),
    excXB_ok (h 38 rfl),
    He.eqO_ok (h 39 rfl),
    of_decide_eq_true (h 40 rfl),
    He.glo_ok X G (h 41 rfl),
    excXB_ok (h 42 rfl),
    He.eqO_ok (h 43 rfl),
    of_decide_eq_true (h 44 rfl),
    He.glo_ok X G (h 45 rfl),
    excXB_ok (h 46 rfl),
    He.eqO_ok (h 47 rfl),
    of_decide_eq_true (h 48 rfl),
    He.glo_ok X G (h 49 rfl),
    excXB_ok (h 50 rfl),
    He.eqO_ok (h 51 rfl),
    of_decide_eq_true (h 52 rfl),
    He.glo_ok X G (h 53 rfl),
    excXB_ok (h 54 rfl),
    He.eqO_ok (h 55 rfl),
    of_decide_eq_true (h 56 rfl),
    He.glo_ok X G (h 57 rfl),
    excXB_ok (h 58 rfl),
    He.eqO_ok (h 59 rfl),
    of_decide_eq_true (h 60 rfl),
    He.glo_ok X G (h 61 rfl),
    excXB_ok (h 62 rfl),
    He.eqO_ok (h 63 rfl),
    of_decide_eq_true (h 64 rfl),
    He.glo_ok X G (h 65 rfl),
    excXB_ok (h 66 rfl),
    He.eqO_ok (h 67 rfl),
    of_decide_eq_true (h 68 rfl),
    He.glo_ok X G (h 69 rfl),
    excXB_ok (h 70 rfl),
    He.eqO_ok (h 71 rfl),
    of_decide_eq_true (h 72 rfl),
    He.glo_ok X G (h 73 rfl),
    excXB_ok (h 74 rfl),
    He.eqO_ok (h 75 rfl),
    of_decide_eq_true (h 76 rfl),
    He.glo_ok X G (h 77 rfl),
    excXB_ok (h 78 rfl),
    He.eqO_ok (h 79 rfl),
    of_decide_eq_true (h 80 rfl),
    He.glo_ok X G (h 81 rfl),
    excXB_ok (h 82 rfl),
    He.eqO_ok (h 83 rfl),
    of_decide_eq_true (h 84 rfl),
    He.glo_ok X G (h 85 rfl),
    excXB_ok (h 86 rfl),
    He.eqO_ok (h 87 rfl),
    of_decide_eq_true (h 88 rfl),
    He.glo_ok X G (h 89 rfl),
    excXB_ok (h 90 rfl),
    He.eqO_ok (h 91 rfl),
    of_decide_eq_true (h 92 rfl),
    He.glo_ok X G (h 93 rfl),
    excXB_ok (h 94 rfl),
    He.eqO_ok (h 95 rfl),
    of_decide_eq_true (h 96 rfl),
    He.glo_ok X G (h 97 rfl),
    excXB_ok (h 98 rfl),
    He.eqO_ok (h 99 rfl),
    of_decide_eq_true (h 100 rfl),
    He.glo_ok X G (h 101 rfl),
    excXB_ok (h 102 rfl),
    He.eqO_ok (h 103 rfl),
    of_decide_eq_true (h 104 rfl),
    He.glo_ok X G (h 105 rfl),
    excXB_ok (h 106 rfl),
    He.eqO_ok (h 107 rfl),
    of_decide_eq_true (h 108 rfl),
    He.glo_ok X G (h 109 rfl),
    excXB_ok (h 110 rfl),
    He.eqO_ok (h 111 rfl),
    of_decide_eq_true (h 112 rfl),
    He.glo_ok X G (h 113 rfl),
    excXB_ok (h 114 rfl),
    He.eqO_ok (h 115 rfl),
    of_decide_eq_true (h 116 rfl),
    fun _ => xt_of (h 117 rfl),
    fun _ => isxt_of (h 118 rfl),
    He.glo_ok X G (h 119 rfl),
    He.glo_ok X G (h 120 rfl),
    He.free_ok X G (h 121 rfl),
    He.free_ok X G (h 122 rfl),
    He.free_ok X G (h 123 rfl),
    He.free_ok X G (h 124 rfl),
    He.free_ok X G (h 125 rfl),
    He.free_ok X G (h 126 rfl),
    He.free_ok X G (h 127 rfl),
    He.free_ok X G (h 128 rfl),
    He.free_ok X G (h 129 rfl),
    He.free_ok X G (h 130 rfl),
    He.free_ok X G (h 131 rfl),
    He.free_ok X G (h 132 rfl),
    He.free_ok X G (h 133 rfl),
    He.free_ok X G (h 134 rfl)⟩
abbrev cb__law_open_1M : List D → List D → List D := fun ds es => pick [0] (ds ++ es)
theorem cb__law_open_1 {K : PySem.W.Frag} {ce : List (Str × Addr)} {mg : Str → Option Value} (T : Tx K mg) {f : Addr} {fd : FuncData} (F : FunD K dd__law_open.name dd__law_open.qual dd__law_open.params dd__law_open.body dd__law_open.scope (dd__law_open.dvs K) (dd__law_open.kws K) f fd) : CallB (Gk K ce) K fd ["_law_script"] 1 [] cb__law_open_1M :=
  cb_N (ps := ["_law_script"]) F 1 [] [0] rfl (by decide) fun _ _ _ _ _ _ us ws l1 l2 => match us, ws, l1, l2 with | [_], [], _, _ => rfl
abbrev cb__law_of_2M : List D → List D → List D := fun ds es => pick [0, 1] (ds ++ es)
theorem cb__law_of_2 {K : PySem.W.Frag} {ce : List (Str × Addr)} {mg : Str → Option Value} (T : Tx K mg) {f : Addr} {fd : FuncData} (F : FunD K dd__law_of.name dd__law_of.qual dd__law_of.params dd__law_of.body dd__law_of.scope (dd__law_of.dvs K) (dd__law_of.kws K) f fd) : CallB (Gk K ce) K fd ["_law_bag", "_law_things"] 2 [] cb__law_of_2M :=
  cb_N (ps := ["_law_bag", "_law_things"]) F 2 [] [0, 1] rfl (by decide) fun _ _ _ _ _ _ us ws l1 l2 => match us, ws, l1, l2 with | [_, _], [], _, _ => rfl
abbrev cb__law_draw_2M : List D → List D → List D := fun ds es => pick [0, 1] (ds ++ es)
theorem cb__law_draw_2 {K : PySem.W.Frag} {ce : List (Str × Addr)} {mg : Str → Option Value} (T : Tx K mg) {f : Addr} {fd : FuncData} (F : FunD K dd__law_draw.name dd__law_draw.qual dd__law_draw.params dd__law_draw.body dd__law_draw.scope (dd__law_draw.dvs K) (dd__law_draw.kws K) f fd) : CallB (Gk K ce) K fd ["_law_bag", "_law_sides"] 2 [] cb__law_draw_2M :=
  cb_N (ps := ["_law_bag", "_law_sides"]) F 2 [] [0, 1] rfl (by decide) fun _ _ _ _ _ _ us ws l1 l2 => match us, ws, l1, l2 with | [_, _], [], _, _ => rfl
abbrev cb_InvalidSymbols___init___1M : List D → List D → List D := fun ds es => pick [0] (ds ++ es)
theorem cb_InvalidSymbols___init___1 {K : PySem.W.Frag} {ce : List (Str × Addr)} {mg : Str → Option Value} (T : Tx K mg) {f : Addr} {fd : FuncData} (F : FunD K dd_InvalidSymbols___init__.name dd_InvalidSymbols___init__.qual dd_InvalidSymbols___init__.params dd_InvalidSymbols___init__.body dd_InvalidSymbols___init__.scope (dd_InvalidSymbols___init__.dvs K) (dd_InvalidSymbols___init__.kws K) f fd) : CallI (Gk K ce) K fd ["self", "given"] 1 [] cb_InvalidSymbols___init___1M :=
  cbI_N (ps := ["self", "given"]) F 1 [] [0] rfl (by decide) fun _ _ _ _ _ _ us ws l1 l2 => match us, ws, l1, l2 with | [_, _], [], _, _ => rfl
abbrev cb_InvalidSymbol___init___0_givenM : List D → List D → List D := fun ds es => pick [0] (ds ++ es)
theorem cb_InvalidSymbol___init___0_given {K : PySem.W.Frag} {ce : List (Str × Addr)} {mg : Str → Option Value} (T : Tx K mg) {f : Addr} {fd : FuncData} (F : FunD K dd_InvalidSymbol___init__.name dd_InvalidSymbol___init__.qual dd_InvalidSymbol___init__.params dd_InvalidSymbol___init__.body dd_InvalidSymbol___init__.scope (dd_InvalidSymbol___init__.dvs K) (dd_InvalidSymbol___init__.kws K) f fd) : CallI (Gk K ce) K fd ["self", "given"] 0 ["given"] cb_InvalidSymbol___init___0_givenM :=
  cbI_N (ps := ["self", "given"]) F 0 ["given"] [0] rfl (by decide) fun _ _ _ _ _ _ us ws l1 l2 => match us, ws, l1, l2 with | [_], [_], _, _ => rfl
abbrev cb_InvalidText___init___1M : List D → List D → List D := fun ds es => pick [0] (ds ++ es)
theorem cb_InvalidText___init___1 {K : PySem.W.Frag} {ce : List (Str × Addr)} {mg : Str → Option Value} (T : Tx K mg) {f : Addr} {fd : FuncData} (F : FunD K dd_InvalidText___init__.name dd_InvalidText___init__.qual dd_InvalidText___init__.params dd_InvalidText___init__.body dd_InvalidText___init__.scope (dd_InvalidText___init__.dvs K) (dd_InvalidText___init__.kws K) f fd) : CallI (Gk K ce) K fd ["self", "given"] 1 [] cb_InvalidText___init___1M :=
  cbI_N (ps := ["self", "given"]) F 1 [] [0] rfl (by decide) fun _ _ _ _ _ _ us ws l1 l2 => match us, ws, l1, l2 with | [_, _], [], _, _ => rfl
abbrev cb_InvalidPiece___init___0_atM : List D → List D → List D := fun ds es => pick [0] (ds ++ es)
theorem cb_InvalidPiece___init___0_at {K : PySem.W.Frag} {ce : List (Str × Addr)} {mg : Str → Option Value} (T : Tx K mg) {f : Addr} {fd : FuncData} (F : FunD K dd_InvalidPiece___init__.name dd_InvalidPiece___init__.qual dd_InvalidPiece___init__.params dd_InvalidPiece___init__.body dd_InvalidPiece___init__.scope (dd_InvalidPiece___init__.dvs K) (dd_InvalidPiece___init__.kws K) f fd) : CallI (Gk K ce) K fd ["self", "at"] 0 ["at"] cb_InvalidPiece___init___0_atM :=
  cbI_N (ps := ["self", "at"]) F 0 ["at"] [0] rfl (by decide) fun _ _ _ _ _ _ us ws l1 l2 => match us, ws, l1, l2 with | [_], [_], _, _ => rfl
abbrev cb_InvalidCost___init___1M : List D → List D → List D := fun ds es => pick [0] (ds ++ es)
theorem cb_InvalidCost___init___1 {K : PySem.W.Frag} {ce : List (Str × Addr)} {mg : Str → Option Value} (T : Tx K mg) {f : Addr} {fd : FuncData} (F : FunD K dd_InvalidCost___init__.name dd_InvalidCost___init__.qual dd_InvalidCost___init__.params dd_InvalidCost___init__.body dd_InvalidCost___init__.scope (dd_InvalidCost___init__.dvs K) (dd_InvalidCost___init__.kws K) f fd) : CallI (Gk K ce) K fd ["self", "given"] 1 [] cb_InvalidCost___init___1M :=
  cbI_N (ps := ["self", "given"]) F 1 [] [0] rfl (by decide) fun _ _ _ _ _ _ us ws l1 l2 => match us, ws, l1, l2 with | [_, _], [], _, _ => rfl
abbrev cb_InvalidRow___init___1M : List D → List D → List D := fun ds es => pick [0] (ds ++ es)
theorem cb_InvalidRow___init___1 {K : PySem.W.Frag} {ce : List (Str × Addr)} {mg : Str → Option Value} (T : Tx K mg) {f : Addr} {fd : FuncData} (F : FunD K dd_InvalidRow___init__.name dd_InvalidRow___init__.qual dd_InvalidRow___init__.params dd_InvalidRow___init__.body dd_InvalidRow___init__.scope (dd_InvalidRow___init__.dvs K) (dd_InvalidRow___init__.kws K) f fd) : CallI (Gk K ce) K fd ["self", "at"] 1 [] cb_InvalidRow___init___1M :=
  cbI_N (ps := ["self", "at"]) F 1 [] [0] rfl (by decide) fun _ _ _ _ _ _ us ws l1 l2 => match us, ws, l1, l2 with | [_, _], [], _, _ => rfl
abbrev cb_InvalidVerdict___init___0_givenM : List D → List D → List D := fun ds es => pick [0] (ds ++ es)
theorem cb_InvalidVerdict___init___0_given {K : PySem.W.Frag} {ce : List (Str × Addr)} {mg : Str → Option Value} (T : Tx K mg) {f : Addr} {fd : FuncData} (F : FunD K dd_InvalidVerdict___init__.name dd_InvalidVerdict___init__.qual dd_InvalidVerdict___init__.params dd_InvalidVerdict___init__.body dd_InvalidVerdict___init__.scope (dd_InvalidVerdict___init__.dvs K) (dd_InvalidVerdict___init__.kws K) f fd) : CallI (Gk K ce) K fd ["self", "given"] 0 ["given"] cb_InvalidVerdict___init___0_givenM :=
  cbI_N (ps := ["self", "given"]) F 0 ["given"] [0] rfl (by decide) fun _ _ _ _ _ _ us ws l1 l2 => match us, ws, l1, l2 with | [_], [_], _, _ => rfl
abbrev cb_InvalidState___init___1M : List D → List D → List D := fun ds es => pick [0] (ds ++ es)
theorem cb_InvalidState___init___1 {K : PySem.W.Frag} {ce : List (Str × Addr)} {mg : Str → Option Value} (T : Tx K mg) {f : Addr} {fd : FuncData} (F : FunD K dd_InvalidState___init__.name dd_InvalidState___init__.qual dd_InvalidState___init__.params dd_InvalidState___init__.body dd_InvalidState___init__.scope (dd_InvalidState___init__.dvs K) (dd_InvalidState___init__.kws K) f fd) : CallI (Gk K ce) K fd ["self", "given"] 1 [] cb_InvalidState___init___1M :=
  cbI_N (ps := ["self", "given"]) F 1 [] [0] rfl (by decide) fun _ _ _ _ _ _ us ws l1 l2 => match us, ws, l1, l2 with | [_, _], [], _, _ => rfl
abbrev cb_InvalidNumber___init___0_givenM : List D → List D → List D := fun ds es => pick [0] (ds ++ es)
theorem cb_InvalidNumber___init___0_given {K : PySem.W.Frag} {ce : List (Str × Addr)} {mg : Str → Option Value} (T : Tx K mg) {f : Addr} {fd : FuncData} (F : FunD K dd_InvalidNumber___init__.name dd_InvalidNumber___init__.qual dd_InvalidNumber___init__.params dd_InvalidNumber___init__.body dd_InvalidNumber___init__.scope (dd_InvalidNumber___init__.dvs K) (dd_InvalidNumber___init__.kws K) f fd) : CallI (Gk K ce) K fd ["self", "given"] 0 ["given"] cb_InvalidNumber___init___0_givenM :=
  cbI_N (ps := ["self", "given"]) F 0 ["given"] [0] rfl (by decide) fun _ _ _ _ _ _ us ws l1 l2 => match us, ws, l1, l2 with | [_], [_], _, _ => rfl
abbrev cb_InvalidName___init___1M : List D → List D → List D := fun ds es => pick [0] (ds ++ es)
theorem cb_InvalidName___init___1 {K : PySem.W.Frag} {ce : List (Str × Addr)} {mg : Str → Option Value} (T : Tx K mg) {f : Addr} {fd : FuncData} (F : FunD K dd_InvalidName___init__.name dd_InvalidName___init__.qual dd_InvalidName___init__.params dd_InvalidName___init__.body dd_InvalidName___init__.scope (dd_InvalidName___init__.dvs K) (dd_InvalidName___init__.kws K) f fd) : CallI (Gk K ce) K fd ["self", "given"] 1 [] cb_InvalidName___init___1M :=
  cbI_N (ps := ["self", "given"]) F 1 [] [0] rfl (by decide) fun _ _ _ _ _ _ us ws l1 l2 => match us, ws, l1, l2 with | [_, _], [], _, _ => rfl
abbrev cb_InvalidReader___init___0_nameM : List D → List D → List D := fun ds es => pick [0] (ds ++ es)
theorem cb_InvalidReader___init___0_name {K : PySem.W.Frag} {ce : List (Str × Addr)} {mg : Str → Option Value} (T : Tx K mg) {f : Addr} {fd : FuncData} (F : FunD K dd_InvalidReader___init__.name dd_InvalidReader___init__.qual dd_InvalidReader___init__.params dd_InvalidReader___init__.body dd_InvalidReader___init__.scope (dd_InvalidReader___init__.dvs K) (dd_InvalidReader___init__.kws K) f fd) : CallI (Gk K ce) K fd ["self", "name"] 0 ["name"] cb_InvalidReader___init___0_nameM :=
  cbI_N (ps := ["self", "name"]) F 0 ["name"] [0] rfl (by decide) fun _ _ _ _ _ _ us ws l1 l2 => match us, ws, l1, l2 with | [_], [_], _, _ => rfl
abbrev cb_InvalidKind___init___1M : List D → List D → List D := fun ds es => pick [0] (ds ++ es)
theorem cb_InvalidKind___init___1 {K : PySem.W.Frag} {ce : List (Str × Addr)} {mg : Str → Option Value} (T : Tx K mg) {f : Addr} {fd : FuncData} (F : FunD K dd_InvalidKind___init__.name dd_InvalidKind___init__.qual dd_InvalidKind___init__.params dd_InvalidKind___init__.body dd_InvalidKind___init__.scope (dd_InvalidKind___init__.dvs K) (dd_InvalidKind___init__.kws K) f fd) : CallI (Gk K ce) K fd ["self", "given"] 1 [] cb_InvalidKind___init___1M :=
  cbI_N (ps := ["self", "given"]) F 1 [] [0] rfl (by decide) fun _ _ _ _ _ _ us ws l1 l2 => match us, ws, l1, l2 with | [_, _], [], _, _ => rfl
abbrev cb_InvalidPattern___init___0_atM : List D → List D → List D := fun ds es => pick [0] (ds ++ es)
theorem cb_InvalidPattern___init___0_at {K : PySem.W.Frag} {ce : List (Str × Addr)} {mg : Str → Option Value} (T : Tx K mg) {f : Addr} {fd : FuncData} (F : FunD K dd_InvalidPattern___init__.name dd_InvalidPattern___init__.qual dd_InvalidPattern___init__.params dd_InvalidPattern___init__.body dd_InvalidPattern___init__.scope (dd_InvalidPattern___init__.dvs K) (dd_InvalidPattern___init__.kws K) f fd) : CallI (Gk K ce) K fd ["self", "at"] 0 ["at"] cb_InvalidPattern___init___0_atM :=
  cbI_N (ps := ["self", "at"]) F 0 ["at"] [0] rfl (by decide) fun _ _ _ _ _ _ us ws l1 l2 => match us, ws, l1, l2 with | [_], [_], _, _ => rfl
abbrev cb_InvalidRule___init___1M : List D → List D → List D := fun ds es => pick [0] (ds ++ es)
theorem cb_InvalidRule___init___1 {K : PySem.W.Frag} {ce : List (Str × Addr)} {mg : Str → Option Value} (T : Tx K mg) {f : Addr} {fd : FuncData} (F : FunD K dd_InvalidRule___init__.name dd_InvalidRule___init__.qual dd_InvalidRule___init__.params dd_InvalidRule___init__.body dd_InvalidRule___init__.scope (dd_InvalidRule___init__.dvs K) (dd_InvalidRule___init__.kws K) f fd) : CallI (Gk K ce) K fd ["self", "at"] 1 [] cb_InvalidRule___init___1M :=
  cbI_N (ps := ["self", "at"]) F 1 [] [0] rfl (by decide) fun _ _ _ _ _ _ us ws l1 l2 => match us, ws, l1, l2 with | [_, _], [], _, _ => rfl
abbrev cb_InvalidCommand___init___0_atM : List D → List D → List D := fun ds es => pick [0] (ds ++ es)
theorem cb_InvalidCommand___init___0_at {K : PySem.W.Frag} {ce : List (Str × Addr)} {mg : Str → Option Value} (T : Tx K mg) {f : Addr} {fd : FuncData} (F : FunD K dd_InvalidCommand___init__.name dd_InvalidCommand___init__.qual dd_InvalidCommand___init__.params dd_InvalidCommand___init__.body dd_InvalidCommand___init__.scope (dd_InvalidCommand___init__.dvs K) (dd_InvalidCommand___init__.kws K) f fd) : CallI (Gk K ce) K fd ["self", "at"] 0 ["at"] cb_InvalidCommand___init___0_atM :=
  cbI_N (ps := ["self", "at"]) F 0 ["at"] [0] rfl (by decide) fun _ _ _ _ _ _ us ws l1 l2 => match us, ws, l1, l2 with | [_], [_], _, _ => rfl
abbrev cb_InvalidLimit___init___1M : List D → List D → List D := fun ds es => pick [0] (ds ++ es)
theorem cb_InvalidLimit___init___1 {K : PySem.W.Frag} {ce : List (Str × Addr)} {mg : Str → Option Value} (T : Tx K mg) {f : Addr} {fd : FuncData} (F : FunD K dd_InvalidLimit___init__.name dd_InvalidLimit___init__.qual dd_InvalidLimit___init__.params dd_InvalidLimit___init__.body dd_InvalidLimit___init__.scope (dd_InvalidLimit___init__.dvs K) (dd_InvalidLimit___init__.kws K) f fd) : CallI (Gk K ce) K fd ["self", "given"] 1 [] cb_InvalidLimit___init___1M :=
  cbI_N (ps := ["self", "given"]) F 1 [] [0] rfl (by decide) fun _ _ _ _ _ _ us ws l1 l2 => match us, ws, l1, l2 with | [_, _], [], _, _ => rfl
abbrev cb_InvalidPage___init___0_lineM : List D → List D → List D := fun ds es => pick [0] (ds ++ es)
theorem cb_InvalidPage___init___0_line {K : PySem.W.Frag} {ce : List (Str × Addr)} {mg : Str → Option Value} (T : Tx K mg) {f : Addr} {fd : FuncData} (F : FunD K dd_InvalidPage___init__.name dd_InvalidPage___init__.qual dd_InvalidPage___init__.params dd_InvalidPage___init__.body dd_InvalidPage___init__.scope (dd_InvalidPage___init__.dvs K) (dd_InvalidPage___init__.kws K) f fd) : CallI (Gk K ce) K fd ["self", "line"] 0 ["line"] cb_InvalidPage___init___0_lineM :=
  cbI_N (ps := ["self", "line"]) F 0 ["line"] [0] rfl (by decide) fun _ _ _ _ _ _ us ws l1 l2 => match us, ws, l1, l2 with | [_], [_], _, _ => rfl
abbrev cb_UnlikeSymbols___init___0_nameM : List D → List D → List D := fun ds es => pick [0] (ds ++ es)
theorem cb_UnlikeSymbols___init___0_name {K : PySem.W.Frag} {ce : List (Str × Addr)} {mg : Str → Option Value} (T : Tx K mg) {f : Addr} {fd : FuncData} (F : FunD K dd_UnlikeSymbols___init__.name dd_UnlikeSymbols___init__.qual dd_UnlikeSymbols___init__.params dd_UnlikeSymbols___init__.body dd_UnlikeSymbols___init__.scope (dd_UnlikeSymbols___init__.dvs K) (dd_UnlikeSymbols___init__.kws K) f fd) : CallI (Gk K ce) K fd ["self", "name"] 0 ["name"] cb_UnlikeSymbols___init___0_nameM :=
  cbI_N (ps := ["self", "name"]) F 0 ["name"] [0] rfl (by decide) fun _ _ _ _ _ _ us ws l1 l2 => match us, ws, l1, l2 with | [_], [_], _, _ => rfl
abbrev cb_UnlikeNames___init___0M : List D → List D → List D := fun ds es => pick [] (ds ++ es)
theorem cb_UnlikeNames___init___0 {K : PySem.W.Frag} {ce : List (Str × Addr)} {mg : Str → Option Value} (T : Tx K mg) {f : Addr} {fd : FuncData} (F : FunD K dd_UnlikeNames___init__.name dd_UnlikeNames___init__.qual dd_UnlikeNames___init__.params dd_UnlikeNames___init__.body dd_UnlikeNames___init__.scope (dd_UnlikeNames___init__.dvs K) (dd_UnlikeNames___init__.kws K) f fd) : CallI (Gk K ce) K fd ["self"] 0 [] cb_UnlikeNames___init___0M :=
  cbI_N (ps := ["self"]) F 0 [] [] rfl (by decide) fun _ _ _ _ _ _ us ws l1 l2 => match us, ws, l1, l2 with | [_], [], _, _ => rfl
abbrev cb_NotFewer___init___0M : List D → List D → List D := fun ds es => pick [] (ds ++ es)
theorem cb_NotFewer___init___0 {K : PySem.W.Frag} {ce : List (Str × Addr)} {mg : Str → Option Value} (T : Tx K mg) {f : Addr} {fd : FuncData} (F : FunD K dd_NotFewer___init__.name dd_NotFewer___init__.qual dd_NotFewer___init__.params dd_NotFewer___init__.body dd_NotFewer___init__.scope (dd_NotFewer___init__.dvs K) (dd_NotFewer___init__.kws K) f fd) : CallI (Gk K ce) K fd ["self"] 0 [] cb_NotFewer___init___0M :=
  cbI_N (ps := ["self"]) F 0 [] [] rfl (by decide) fun _ _ _ _ _ _ us ws l1 l2 => match us, ws, l1, l2 with | [_], [], _, _ => rfl
abbrev cb_Unfounded___init___0M : List D → List D → List D := fun ds es => pick [] (ds ++ es)
theorem cb_Unfounded___init___0 {K : PySem.W.Frag} {ce : List (Str × Addr)} {mg : Str → Option Value} (T : Tx K mg) {f : Addr} {fd : FuncData} (F : FunD K dd_Unfounded___init__.name dd_Unfounded___init__.qual dd_Unfounded___init__.params dd_Unfounded___init__.body dd_Unfounded___init__.scope (dd_Unfounded___init__.dvs K) (dd_Unfounded___init__.kws K) f fd) : CallI (Gk K ce) K fd ["self"] 0 [] cb_Unfounded___init___0M :=
  cbI_N (ps := ["self"]) F 0 [] [] rfl (by decide) fun _ _ _ _ _ _ us ws l1 l2 => match us, ws, l1, l2 with | [_], [], _, _ => rfl
abbrev cb_NoText___init___0M : List D → List D → List D := fun ds es => pick [] (ds ++ es)
theorem cb_NoText___init___0 {K : PySem.W.Frag} {ce : List (Str × Addr)} {mg : Str → Option Value} (T : Tx K mg) {f : Addr} {fd : FuncData} (F : FunD K dd_NoText___init__.name dd_NoText___init__.qual dd_NoText___init__.params dd_NoText___init__.body dd_NoText___init__.scope (dd_NoText___init__.dvs K) (dd_NoText___init__.kws K) f fd) : CallI (Gk K ce) K fd ["self"] 0 [] cb_NoText___init___0M :=
  cbI_N (ps := ["self"]) F 0 [] [] rfl (by decide) fun _ _ _ _ _ _ us ws l1 l2 => match us, ws, l1, l2 with | [_], [], _, _ => rfl
abbrev cb_Full___init___0_limitM : List D → List D → List D := fun ds es => pick [0] (ds ++ es)
theorem cb_Full___init___0_limit {K : PySem.W.Frag} {ce : List (Str × Addr)} {mg : Str → Option Value} (T : Tx K mg) {f : Addr} {fd : FuncData} (F : FunD K dd_Full___init__.name dd_Full___init__.qual dd_Full___init__.params dd_Full___init__.body dd_Full___init__.scope (dd_Full___init__.dvs K) (dd_Full___init__.kws K) f fd) : CallI (Gk K ce) K fd ["self", "limit"] 0 ["limit"] cb_Full___init___0_limitM :=
  cbI_N (ps := ["self", "limit"]) F 0 ["limit"] [0] rfl (by decide) fun _ _ _ _ _ _ us ws l1 l2 => match us, ws, l1, l2 with | [_], [_], _, _ => rfl
abbrev cb_TooMany___init___1_mostM : List D → List D → List D := fun ds es => pick [0, 1] (ds ++ es)
theorem cb_TooMany___init___1_most {K : PySem.W.Frag} {ce : List (Str × Addr)} {mg : Str → Option Value} (T : Tx K mg) {f : Addr} {fd : FuncData} (F : FunD K dd_TooMany___init__.name dd_TooMany___init__.qual dd_TooMany___init__.params dd_TooMany___init__.body dd_TooMany___init__.scope (dd_TooMany___init__.dvs K) (dd_TooMany___init__.kws K) f fd) : CallI (Gk K ce) K fd ["self", "subject", "most"] 1 ["most"] cb_TooMany___init___1_mostM :=
  cbI_N (ps := ["self", "subject", "most"]) F 1 ["most"] [0, 1] rfl (by decide) fun _ _ _ _ _ _ us ws l1 l2 => match us, ws, l1, l2 with | [_, _], [_], _, _ => rfl
abbrev cb_UnknownName___init___0_nameM : List D → List D → List D := fun ds es => pick [0] (ds ++ es)
theorem cb_UnknownName___init___0_name {K : PySem.W.Frag} {ce : List (Str × Addr)} {mg : Str → Option Value} (T : Tx K mg) {f : Addr} {fd : FuncData} (F : FunD K dd_UnknownName___init__.name dd_UnknownName___init__.qual dd_UnknownName___init__.params dd_UnknownName___init__.body dd_UnknownName___init__.scope (dd_UnknownName___init__.dvs K) (dd_UnknownName___init__.kws K) f fd) : CallI (Gk K ce) K fd ["self", "name"] 0 ["name"] cb_UnknownName___init___0_nameM :=
  cbI_N (ps := ["self", "name"]) F 0 ["name"] [0] rfl (by decide) fun _ _ _ _ _ _ us ws l1 l2 => match us, ws, l1, l2 with | [_], [_], _, _ => rfl
abbrev cb_NothingLeft___init___0M : List D → List D → List D := fun ds es => pick [] (ds ++ es)
theorem cb_NothingLeft___init___0 {K : PySem.W.Frag} {ce : List (Str × Addr)} {mg : Str → Option Value} (T : Tx K mg) {f : Addr} {fd : FuncData} (F : FunD K dd_NothingLeft___init__.name dd_NothingLeft___init__.qual dd_NothingLeft___init__.params dd_NothingLeft___init__.body dd_NothingLeft___init__.scope (dd_NothingLeft___init__.dvs K) (dd_NothingLeft___init__.kws K) f fd) : CallI (Gk K ce) K fd ["self"] 0 [] cb_NothingLeft___init___0M :=
  cbI_N (ps := ["self"]) F 0 [] [] rfl (by decide) fun _ _ _ _ _ _ us ws l1 l2 => match us, ws, l1, l2 with | [_], [], _, _ => rfl
abbrev cb__law_same_2M : List D → List D → List D := fun ds es => pick [0, 1] (ds ++ es)
theorem cb__law_same_2 {K : PySem.W.Frag} {ce : List (Str × Addr)} {mg : Str → Option Value} (T : Tx K mg) {f : Addr} {fd : FuncData} (F : FunD K dd__law_same.name dd__law_same.qual dd__law_same.params dd__law_same.body dd__law_same.scope (dd__law_same.dvs K) (dd__law_same.kws K) f fd) : CallB (Gk K ce) K fd ["_law_found", "_law_due"] 2 [] cb__law_same_2M :=
  cb_N (ps := ["_law_found", "_law_due"]) F 2 [] [0, 1] rfl (by decide) fun _ _ _ _ _ _ us ws l1 l2 => match us, ws, l1, l2 with | [_, _], [], _, _ => rfl
abbrev cb__law_field_1M : List D → List D → List D := fun ds es => pick [0] (ds ++ es)
theorem cb__law_field_1 {K : PySem.W.Frag} {ce : List (Str × Addr)} {mg : Str → Option Value} (T : Tx K mg) {f : Addr} {fd : FuncData} (F : FunD K dd__law_field.name dd__law_field.qual dd__law_field.params dd__law_field.body dd__law_field.scope (dd__law_field.dvs K) (dd__law_field.kws K) f fd) : CallB (Gk K ce) K fd ["_law_e"] 1 [] cb__law_field_1M :=
  cb_N (ps := ["_law_e"]) F 1 [] [0] rfl (by decide) fun _ _ _ _ _ _ us ws l1 l2 => match us, ws, l1, l2 with | [_], [], _, _ => rfl
abbrev cb__law_kinds_of_1M : List D → List D → List D := fun ds es => pick [0] (ds ++ es)
theorem cb__law_kinds_of_1 {K : PySem.W.Frag} {ce : List (Str × Addr)} {mg : Str → Option Value} (T : Tx K mg) {f : Addr} {fd : FuncData} (F : FunD K dd__law_kinds_of.name dd__law_kinds_of.qual dd__law_kinds_of.params dd__law_kinds_of.body dd__law_kinds_of.scope (dd__law_kinds_of.dvs K) (dd__law_kinds_of.kws K) f fd) : CallB (Gk K ce) K fd ["_law_e"] 1 [] cb__law_kinds_of_1M :=
  cb_N (ps := ["_law_e"]) F 1 [] [0] rfl (by decide) fun _ _ _ _ _ _ us ws l1 l2 => match us, ws, l1, l2 with | [_], [], _, _ => rfl
abbrev FD__law_open (K : PySem.W.Frag) (fd : FuncData) : Prop := FunD K dd__law_open.name dd__law_open.qual dd__law_open.params dd__law_open.body dd__law_open.scope (dd__law_open.dvs K) (dd__law_open.kws K) (dd__law_open.at_ K) fd
abbrev l__law_open_1 : M Fl := (cSet false 1 (cBin oMod (cBlt gInt (cConsR (cBin oAdd (cBin oAdd (cBin oMul (cName 1) (cC (.int 52361))) (cBin oMul (cBin oMod (cBlt gInt (cConsR (cName 2) cNilR)) (cC (.int 1000303))) (cC (.int 877)))) (cC (.int 37))) cNilR)) (cC (.int 2147483587))))
def c__law_open : M Fl := (cSeq (cSet false 1 (cC (.int 12025)))
    (cSeq (cFor (cIts (cSl oCut (cName 0) cNoP (cPart (cC (.int 63))))) (.nm 2) l__law_open_1)
    (cRet (cLst (cConsD (cBlt gList (cConsR (cSl oCut (cName 0) cNoP (cPart (cC (.int 63)))) cNilR)) (cConsD (cC (.int 0)) (cConsD (cC (.int 0)) (cConsD (cName 1) (cConsD (cC (.int 0)) cNilD)))))))))
def m__law_open : List D → List Sl → Res Rv := defM 3 c__law_open
abbrev Ok__law_open (P : Program) (wd : World) (K : PySem.W.Frag) (mg : Str → Option Value) (base : Heap) (ce : List (Str × Addr)) : Prop := ∃ fd, FD__law_open K fd ∧ FnOk P wd K mg base (L2.CX P wd) 1 (dd__law_open.at_ K) fd ["_law_script"] (spM (Gk K ce) 1 m__law_open)
set_option maxHeartbeats 0 in
theorem ok__law_open {P : Program} {wd : World} {K : PySem.W.Frag} {mg : Str → Option Value} {base : Heap} {ce : List (Str × Addr)} (T : Tx K mg) (D0 : ∃ fd, FD__law_open K fd) : Ok__law_open P wd K mg base ce := by iterate
  obtain ⟨fd, F⟩ := D0
  refine ⟨fd, F, ?_⟩
  · refine fn_dv (Γ := Gk K ce) (N := ["_law_script", "_law_mixed", "_law_cell"]) (ps := ["_law_script"]) (c := c__law_open) F sc__law_open fun cdv A outer s H E hr tk pas => ?_
    have hu : (A.deeper (envOfC dd__law_open.qual dd__law_open.scope s.heap.objs.size (dd__law_open.at_ K) cdv)).units + 64 < cLine := by have := hr.un; omega
    have hu1 : (A.deeper (envOfC dd__law_open.qual dd__law_open.scope s.heap.objs.size (dd__law_open.at_ K) cdv)).units + 1 < cLine := by omega
    exact (pms_cons (setA (own := false) pm_int sc__law_open.nd)
    (pms_cons (frA pas (pmi_its rfl (pm_slice slAll bCut (nA 0) pmo_none (pmo_some pm_int))) (pgA 2 sc__law_open.nd) (tg_nm 2) (pms_one (setA (own := false) (pm_bin op_mod bMod (tyA call_int1 okInt T.f_int (pmr1 (pm_bin opAdd bAdd (pm_bin opAdd bAdd (pm_bin opMul bMul (nA 1) pm_int) (pm_bin opMul bMul (pm_bin op_mod bMod (tyA call_int1 okInt T.f_int (pmr1 (nA 2))) pm_int) pm_int)) pm_int))) pm_int) sc__law_open.nd)))
    (pms_one (pms_ret (pm_lst (pmaC (tyA (crList rfl) okList T.f_list (pmr1 (pm_slice slAll bCut (nA 0) pmo_none (pmo_some pm_int)))) (pmaC pm_int (pmaC pm_int (pmaC (nA 1) (pma1 pm_int))))))))))
abbrev FD__law_draw (K : PySem.W.Frag) (fd : FuncData) : Prop := FunD K dd__law_draw.name dd__law_draw.qual dd__law_draw.params dd__law_draw.body dd__law_draw.scope (dd__law_draw.dvs K) (dd__law_draw.kws K) (dd__law_draw.at_ K) fd
def c__law_draw : M Fl := (cSeq (cPut stS (cBin oAdd (cBin oGet (cName 0) (cC (.int 4))) (cC (.int 1))) (cName 0) (cC (.int 4)))
    (cSeq (cIfS (cAndB (cTst (cBin (oEq false) (cBin oGet (cName 0) (cC (.int 2))) (cC (.int 0)))) (cTst (cBin oLt (cBin oGet (cName 0) (cC (.int 1))) (cBlt gLen (cConsR (cBin oGet (cName 0) (cC (.int 0))) cNilR))))) (cSeq (cSet false 2 (cBin oGet (cBin oGet (cName 0) (cC (.int 0))) (cBin oGet (cName 0) (cC (.int 1)))))
    (cSeq (cPut stS (cBin oAdd (cBin oGet (cName 0) (cC (.int 1))) (cC (.int 1))) (cName 0) (cC (.int 1)))
    (cIfS (cTst (cBin oGe (cBlt gAbs (cConsR (cName 2) cNilR)) (cBin oPow (cC (.int 10)) (cC (.int 18))))) (cPut stS (cBlt gAbs (cConsR (cName 2) cNilR)) (cName 0) (cC (.int 2))) (cSeq (cSet false 3 (cBin oAdd (cBin oMul (cBin oMod (cBlt gInt (cConsR (cName 2) cNilR)) (cC (.int 1000303))) (cC (.int 769))) (cC (.int 41))))
    (cPut stS (cBin oMod (cBlt gInt (cConsR (cBin oAdd (cBin oMul (cBin oGet (cName 0) (cC (.int 3))) (cC (.int 43789))) (cName 3)) cNilR)) (cC (.int 2147483629))) (cName 0) (cC (.int 3))))))) cNx)
    (cSeq (cIfS (cTst (cBin oGt (cBin oGet (cName 0) (cC (.int 2))) (cC (.int 0)))) (cSeq (cSet false 4 (cBin oMod (cBlt gInt (cConsR (cBin oGet (cName 0) (cC (.int 2))) cNilR)) (cName 1)))
    (cSeq (cPut stS (cBin oFdiv (cBin oGet (cName 0) (cC (.int 2))) (cName 1)) (cName 0) (cC (.int 2)))
    (cRet (cName 4)))) cNx)
    (cSeq (cSet false 5 (cBin oGet (cName 0) (cC (.int 3))))
    (cSeq (cSet false 6 (cBin oAdd (cBin oAdd (cBin oMul (cName 5) (cC (.int 49031))) (cBin oMul (cBin oGet (cName 0) (cC (.int 4))) (cC (.int 110023)))) (cC (.int 60037))))
    (cSeq (cPut stS (cBin oMod (cBlt gInt (cConsR (cBin oAdd (cBin oMul (cBin oMul (cName 5) (cName 5)) (cC (.int 17))) (cName 6)) cNilR)) (cC (.int 2147483587))) (cName 0) (cC (.int 3)))
    (cRet (cBin oMod (cBlt gInt (cConsR (cBin oAdd (cBin oFdiv (cBin oGet (cName 0) (cC (.int 3))) (cC (.int 73))) (cBin oMul (cBin oMod (cBlt gInt (cConsR (cBin oGet (cName 0) (cC (.int 3))) cNilR)) (cC (.int 8009))) (cC (.int 61)))) cNilR)) (cName 1)))))))))
def m__law_draw : List D → List Sl → Res Rv := defM 7 c__law_draw
abbrev Ok__law_draw (P : Program) (wd : World) (K : PySem.W.Frag) (mg : Str → Option Value) (base : Heap) (ce : List (Str × Addr)) : Prop := ∃ fd, FD__law_draw K fd ∧ FnOk P wd K mg base (L2.CX P wd) 1 (dd__law_draw.at_ K) fd ["_law_bag", "_law_sides"] (spM (Gk K ce) 2 m__law_draw)
set_option maxHeartbeats 0 in
theorem ok__law_draw {P : Program} {wd : World} {K : PySem.W.Frag} {mg : Str → Option Value} {base : Heap} {ce : List (Str × Addr)} (T : Tx K mg) (D0 : ∃ fd, FD__law_draw K fd) : Ok__law_draw P wd K mg base ce := by iterate
  obtain ⟨fd, F⟩ := D0
  refine ⟨fd, F, ?_⟩
  · refine fn_dv (Γ := Gk K ce) (N := ["_law_bag", "_law_sides", "_law_cell", "_law_small", "_law_digit", "_law_seed", "_law_step"]) (ps := ["_law_bag", "_law_sides"]) (c := c__law_draw) F sc__law_draw fun cdv A outer s H E hr tk pas => ?_
    have hu : (A.deeper (envOfC dd__law_draw.qual dd__law_draw.scope s.heap.objs.size (dd__law_draw.at_ K) cdv)).units + 64 < cLine := by have := hr.un; omega
    have hu1 : (A.deeper (envOfC dd__law_draw.qual dd__law_draw.scope s.heap.objs.size (dd__law_draw.at_ K) cdv)).units + 1 < cLine := by omega
    exact (pms_cons (pms_put (pset_all hu1) sAll (pm_bin opAdd bAdd (ixA hu1 (nA 0) pm_int) pm_int) (nA 0) pm_int (fun _ => rfl) rfl rfl)
    (pms_cons (pms_if (PW.pt (pmw_and (eqT hu (ixA hu1 (nA 0) pm_int) pm_int) (pmw_and1 (pmt_cmp op_lt bLt (ixA hu1 (nA 0) pm_int) (blA crLen okLen T.f_len (pmr1 (ixA hu1 (nA 0) pm_int))) (nomark _))))) (pms_cons (setA (own := false) (ixA hu1 (ixA hu1 (nA 0) pm_int) (ixA hu1 (nA 0) pm_int)) sc__law_draw.nd)
    (pms_cons (pms_put (pset_all hu1) sAll (pm_bin opAdd bAdd (ixA hu1 (nA 0) pm_int) pm_int) (nA 0) pm_int (fun _ => rfl) rfl rfl)
    (pms_one (pms_if (pmt_cmp op_ge bGe (blA call_abs okAbs T.f_abs (pmr1 (nA 2))) (pm_bin op_pow bPow pm_int pm_int) (nomark _)) (pms_one (pms_put (pset_all hu1) sAll (blA call_abs okAbs T.f_abs (pmr1 (nA 2))) (nA 0) pm_int (fun _ => rfl) rfl rfl)) (pms_cons (setA (own := false) (pm_bin opAdd bAdd (pm_bin opMul bMul (pm_bin op_mod bMod (tyA call_int1 okInt T.f_int (pmr1 (nA 2))) pm_int) pm_int) pm_int) sc__law_draw.nd)
    (pms_one (pms_put (pset_all hu1) sAll (pm_bin op_mod bMod (tyA call_int1 okInt T.f_int (pmr1 (pm_bin opAdd bAdd (pm_bin opMul bMul (ixA hu1 (nA 0) pm_int) pm_int) (nA 3)))) pm_int) (nA 0) pm_int (fun _ => rfl) rfl rfl))))))) pms_nil)
    (pms_cons (pms_if (pmt_cmp op_gt bGt (ixA hu1 (nA 0) pm_int) pm_int (nomark _)) (pms_cons (setA (own := false) (pm_bin op_mod bMod (tyA call_int1 okInt T.f_int (pmr1 (ixA hu1 (nA 0) pm_int))) (nA 1)) sc__law_draw.nd)
    (pms_cons (pms_put (pset_all hu1) sAll (pm_bin op_fdivW bFdiv (ixA hu1 (nA 0) pm_int) (nA 1)) (nA 0) pm_int (fun _ => rfl) rfl rfl)
    (pms_one (pms_ret (nA 4))))) pms_nil)
    (pms_cons (setA (own := false) (ixA hu1 (nA 0) pm_int) sc__law_draw.nd)
    (pms_cons (setA (own := false) (pm_bin opAdd bAdd (pm_bin opAdd bAdd (pm_bin opMul bMul (nA 5) pm_int) (pm_bin opMul bMul (ixA hu1 (nA 0) pm_int) pm_int)) pm_int) sc__law_draw.nd)
    (pms_cons (pms_put (pset_all hu1) sAll (pm_bin op_mod bMod (tyA call_int1 okInt T.f_int (pmr1 (pm_bin opAdd bAdd (pm_bin opMul bMul (pm_bin opMul bMul (nA 5) (nA 5)) pm_int) (nA 6)))) pm_int) (nA 0) pm_int (fun _ => rfl) rfl rfl)
    (pms_one (pms_ret (pm_bin op_mod bMod (tyA call_int1 okInt T.f_int (pmr1 (pm_bin opAdd bAdd (pm_bin op_fdivW bFdiv (ixA hu1 (nA 0) pm_int) pm_int) (pm_bin opMul bMul (pm_bin op_mod bMod (tyA call_int1 okInt T.f_int (pmr1 (ixA hu1 (nA 0) pm_int))) pm_int) pm_int)))) (nA 1))))))))))
abbrev FD__law_of (K : PySem.W.Frag) (fd : FuncData) : Prop := FunD K dd__law_of.name dd__law_of.qual dd__law_of.params dd__law_of.body dd__law_of.scope (dd__law_of.dvs K) (dd__law_of.kws K) (dd__law_of.at_ K) fd
def c__law_of : M Fl := (cRet (cBin oGet (cName 1) (cCall m__law_draw 2 0 cb__law_draw_2M (cConsD (cName 0) (cConsD (cBlt gLen (cConsR (cName 1) cNilR)) cNilD)) cNilD)))
def m__law_of : List D → List Sl → Res Rv := defM 2 c__law_of
abbrev Ok__law_of (P : Program) (wd : World) (K : PySem.W.Frag) (mg : Str → Option Value) (base : Heap) (ce : List (Str × Addr)) : Prop := ∃ fd, FD__law_of K fd ∧ FnOk P wd K mg base (L2.CX P wd) 2 (dd__law_of.at_ K) fd ["_law_bag", "_law_things"] (spM (Gk K ce) 2 m__law_of)
set_option maxHeartbeats 0 in
theorem ok__law_of {P : Program} {wd : World} {K : PySem.W.Frag} {mg : Str → Option Value} {base : Heap} {ce : List (Str × Addr)} (T : Tx K mg) (C__law_draw : Ok__law_draw P wd K mg base ce) (D0 : ∃ fd, FD__law_of K fd) : Ok__law_of P wd K mg base ce := by iterate
  obtain ⟨fd, F⟩ := D0
  obtain ⟨_, F__law_draw, G__law_draw⟩ := C__law_draw
  refine ⟨fd, F, ?_⟩
  · refine fn_dv (Γ := Gk K ce) (N := ["_law_bag", "_law_things"]) (ps := ["_law_bag", "_law_things"]) (c := c__law_of) F sc__law_of fun cdv A outer s H E hr tk pas => ?_
    have hu : (A.deeper (envOfC dd__law_of.qual dd__law_of.scope s.heap.objs.size (dd__law_of.at_ K) cdv)).units + 64 < cLine := by have := hr.un; omega
    have hu1 : (A.deeper (envOfC dd__law_of.qual dd__law_of.scope s.heap.objs.size (dd__law_of.at_ K) cdv)).units + 1 < cLine := by omega
    exact (pms_one (pms_ret (ixA hu1 (nA 1) (clA G__law_draw hr T.g__law_draw F__law_draw.kp (cb__law_draw_2 T F__law_draw) tk (pmaC (nA 0) (pma1 (blA crLen okLen T.f_len (pmr1 (nA 1)))))))))
abbrev FD__law_same (K : PySem.W.Frag) (fd : FuncData) : Prop := FunD K dd__law_same.name dd__law_same.qual dd__law_same.params dd__law_same.body dd__law_same.scope (dd__law_same.dvs K) (dd__law_same.kws K) (dd__law_same.at_ K) fd
def c__law_same (rec : List D → List Sl → Res Rv) : M Fl := (cSeq (cIfS (cOrB (cTst (cBin (oIs false) (cName 1) (cC .non))) (cTst (cBin (oIs false) (cName 0) (cC .non)))) (cRet (cAnd (cBin (oIs false) (cName 1) (cC .non)) (cBin (oIs false) (cName 0) (cC .non)))) cNx)
    (cSeq (cIfS (cTru (cIsi ncl sub (cConsD (cName 1) (cConsD (cTup (cConsD (cC (.ty "list")) (cConsD (cC (.ty "tuple")) cNilD))) cNilD)))) (cSeq (cIfS (cOrB (cTst (cBin (oEq true) (cIsi ncl sub (cConsD (cName 0) (cConsD (cC (.ty "list")) cNilD))) (cIsi ncl sub (cConsD (cName 1) (cConsD (cC (.ty "list")) cNilD))))) (cTst (cBin (oEq true) (cIsi ncl sub (cConsD (cName 0) (cConsD (cC (.ty "tuple")) cNilD))) (cIsi ncl sub (cConsD (cName 1) (cConsD (cC (.ty "tuple")) cNilD)))))) (cRet (cC (.bl false))) cNx)
    (cRet (cAnd (cBin (oEq false) (cBlt gLen (cConsR (cName 0) cNilR)) (cBlt gLen (cConsR (cName 1) cNilR))) (cBlt gAll (cConsR (cLc (cZip (cConsD (cName 0) (cConsD (cName 1) cNilD))) [2, 3] (.tp [2, 3]) cYes (cCall rec 2 0 cb__law_same_2M (cConsD (cName 2) (cConsD (cName 3) cNilD)) cNilD)) cNilR))))) cNx)
    (cSeq (cIfS (cOrB (cTst (cBin (oEq true) (cIsi ncl sub (cConsD (cName 1) (cConsD (cC (.ty "bool")) cNilD))) (cIsi ncl sub (cConsD (cName 0) (cConsD (cC (.ty "bool")) cNilD))))) (cTst (cBin (oEq true) (cIsi ncl sub (cConsD (cName 1) (cConsD (cC (.ty "int")) cNilD))) (cIsi ncl sub (cConsD (cName 0) (cConsD (cC (.ty "int")) cNilD)))))) (cRet (cC (.bl false))) cNx)
    (cRet (cAnd (cBin (oEq false) (cIsi ncl sub (cConsD (cName 1) (cConsD (cC (.ty "str")) cNilD))) (cIsi ncl sub (cConsD (cName 0) (cConsD (cC (.ty "str")) cNilD)))) (cBin (oEq false) (cName 0) (cName 1)))))))
def m__law_same : Nat → List D → List Sl → Res Rv
  | 0 => fun _ _ => .bad
  | n + 1 => defM 4 (c__law_same (m__law_same n))
abbrev Ok__law_same (n : Nat) (P : Program) (wd : World) (K : PySem.W.Frag) (mg : Str → Option Value) (base : Heap) (ce : List (Str × Addr)) : Prop := ∃ fd, FD__law_same K fd ∧ FnOk P wd K mg base (L2.CX P wd) (n + 0) (dd__law_same.at_ K) fd ["_law_found", "_law_due"] (spM (Gk K ce) 2 (m__law_same n))
set_option maxHeartbeats 0 in
theorem ok__law_same {P : Program} {wd : World} {K : PySem.W.Frag} {mg : Str → Option Value} {base : Heap} {ce : List (Str × Addr)} (T : Tx K mg) (D0 : ∃ fd, FD__law_same K fd) : ∀ n, Ok__law_same n P wd K mg base ce := by iterate
  obtain ⟨fd, F⟩ := D0
  intro n
  induction n with
  | zero => exact ⟨fd, F, fn_zero⟩
  | succ n ih =>
    obtain ⟨_, F__law_same, G__law_same⟩ := ih
    rw [show n + 1 + 0 = (n + 0) + 1 by omega]
    refine ⟨fd, F, ?_⟩
    refine fn_dv (Γ := Gk K ce) (N := ["_law_found", "_law_due", "_law_a", "_law_b"]) (ps := ["_law_found", "_law_due"]) (c := (c__law_same (m__law_same n))) F sc__law_same fun cdv A outer s H E hr tk pas => ?_
    have hu : (A.deeper (envOfC dd__law_same.qual dd__law_same.scope s.heap.objs.size (dd__law_same.at_ K) cdv)).units + 64 < cLine := by have := hr.un; omega
    have hu1 : (A.deeper (envOfC dd__law_same.qual dd__law_same.scope s.heap.objs.size (dd__law_same.at_ K) cdv)).units + 1 < cLine := by omega
    exact (pms_cons (pms_if (PW.pt (pmw_or (pmt_cmp opIs bIs (nA 1) pm_non (nomark _)) (pmw_or1 (pmt_cmp opIs bIs (nA 0) pm_non (nomark _))))) (pms_one (pms_ret (pm_and rfl (pm_cmp opIs bIs (nA 1) pm_non (nomark _)) (pm_one (pm_cmp opIs bIs (nA 0) pm_non (nomark _)))))) pms_nil)
    (pms_cons (pms_if (teA (pm_isi rfl (T.ct_ ce) rfl T.f_isinstance (pmaC (nA 1) (pma1 (pm_tup (pmaC (pm_gT T.f_list (by rfl) rfl (by decide) (by decide)) (pma1 (pm_gT T.f_tuple (by rfl) rfl (by decide) (by decide))))))) rfl rfl)) (pms_cons (pms_if (PW.pt (pmw_or (neT hu (pm_isi rfl (T.ct_ ce) rfl T.f_isinstance (pmaC (nA 0) (pma1 (pm_gT T.f_list (by rfl) rfl (by decide) (by decide)))) rfl rfl) (pm_isi rfl (T.ct_ ce) rfl T.f_isinstance (pmaC (nA 1) (pma1 (pm_gT T.f_list (by rfl) rfl (by decide) (by decide)))) rfl rfl)) (pmw_or1 (neT hu (pm_isi rfl (T.ct_ ce) rfl T.f_isinstance (pmaC (nA 0) (pma1 (pm_gT T.f_tuple (by rfl) rfl (by decide) (by decide)))) rfl rfl) (pm_isi rfl (T.ct_ ce) rfl T.f_isinstance (pmaC (nA 1) (pma1 (pm_gT T.f_tuple (by rfl) rfl (by decide) (by decide)))) rfl rfl))))) (pms_one (pms_ret pm_bl)) pms_nil)
    (pms_one (pms_ret (pm_and rfl (pm_cmp (opEq hu) bEq (blA crLen okLen T.f_len (pmr1 (nA 0))) (blA crLen okLen T.f_len (pmr1 (nA 1))) (nomark _)) (pm_one (blA (cr_all rfl) okAll T.f_all (pmr1 (lcA (own := [("_law_a", 2), ("_law_b", 3)]) sc__law_same.nd (pmi_zip rfl rfl T.f_zip (pmaC (nA 0) (pma1 (nA 1))) rfl rfl) (show BlkOk ["_law_found", "_law_due", "_law_a", "_law_b"] (defScope s__law_same) _ _ from blkOk_by (by decide +kernel)) (tg_tp (is := [2, 3]) (n := 2) rfl) (fun _ _ _ _ _ => (pg_tup rfl (pgs_cons (pgB 2 sc__law_same.nd) (pgs_cons (pgB 3 sc__law_same.nd) pgs_nil)))) (fun _ _ _ _ _ => (pm_callJ [] rfl G__law_same hr rfl T.g__law_same F__law_same.kp (cb__law_same_2 T F__law_same) DV.takes0 (pmaC (nA 2) (pma1 (nA 3))) pmk_nil rfl rfl (by decide) rfl rfl)))))))))) pms_nil)
    (pms_cons (pms_if (PW.pt (pmw_or (neT hu (pm_isi rfl (T.ct_ ce) rfl T.f_isinstance (pmaC (nA 1) (pma1 (pm_gT T.f_bool (by rfl) rfl (by decide) (by decide)))) rfl rfl) (pm_isi rfl (T.ct_ ce) rfl T.f_isinstance (pmaC (nA 0) (pma1 (pm_gT T.f_bool (by rfl) rfl (by decide) (by decide)))) rfl rfl)) (pmw_or1 (neT hu (pm_isi rfl (T.ct_ ce) rfl T.f_isinstance (pmaC (nA 1) (pma1 (pm_gT T.f_int (by rfl) rfl (by decide) (by decide)))) rfl rfl) (pm_isi rfl (T.ct_ ce) rfl T.f_isinstance (pmaC (nA 0) (pma1 (pm_gT T.f_int (by rfl) rfl (by decide) (by decide)))) rfl rfl))))) (pms_one (pms_ret pm_bl)) pms_nil)
    (pms_one (pms_ret (pm_and rfl (pm_cmp (opEq hu) bEq (pm_isi rfl (T.ct_ ce) rfl T.f_isinstance (pmaC (nA 1) (pma1 (pm_gT T.f_str (by rfl) rfl (by decide) (by decide)))) rfl rfl) (pm_isi rfl (T.ct_ ce) rfl T.f_isinstance (pmaC (nA 0) (pma1 (pm_gT T.f_str (by rfl) rfl (by decide) (by decide)))) rfl rfl) (nomark _)) (pm_one (pm_cmp (opEq hu) bEq (nA 0) (nA 1) (nomark _)))))))))
abbrev FD__law_field (K : PySem.W.Frag) (fd : FuncData) : Prop := FunD K dd__law_field.name dd__law_field.qual dd__law_field.params dd__law_field.body dd__law_field.scope (dd__law_field.dvs K) (dd__law_field.kws K) (dd__law_field.at_ K) fd
def c__law_field : M Fl := (cSeq (cIfS (cTst (cBin (oIn false) (cXf xfs "code" (cName 0)) (cLst (cConsD (cC (.str "InvalidPiece")) (cConsD (cC (.str "InvalidRow")) (cConsD (cC (.str "InvalidPattern")) (cConsD (cC (.str "InvalidRule")) (cConsD (cC (.str "InvalidCommand")) cNilD)))))))) (cRet (cTup (cConsD (cXf xfs "at" (cName 0)) cNilD))) cNx)
    (cSeq (cIfS (cTst (cBin (oIn false) (cXf xfs "code" (cName 0)) (cLst (cConsD (cC (.str "UnlikeNames")) (cConsD (cC (.str "NotFewer")) (cConsD (cC (.str "Unfounded")) (cConsD (cC (.str "NoText")) (cConsD (cC (.str "NothingLeft")) cNilD)))))))) (cRet (cTup cNilD)) cNx)
    (cSeq (cIfS (cTst (cBin (oIn false) (cXf xfs "code" (cName 0)) (cLst (cConsD (cC (.str "InvalidReader")) (cConsD (cC (.str "UnlikeSymbols")) (cConsD (cC (.str "UnknownName")) cNilD)))))) (cRet (cTup (cConsD (cXf xfs "name" (cName 0)) cNilD))) cNx)
    (cSeq (cIfS (cTst (cBin (oIn false) (cXf xfs "code" (cName 0)) (cLst (cConsD (cC (.str "InvalidPage")) (cConsD (cC (.str "Full")) cNilD))))) (cRet (cIf (cTst (cBin (oEq false) (cXf xfs "code" (cName 0)) (cC (.str "InvalidPage")))) (cTup (cConsD (cXf xfs "line" (cName 0)) cNilD)) (cTup (cConsD (cXf xfs "limit" (cName 0)) cNilD)))) cNx)
    (cRet (cIf (cTst (cBin (oEq false) (cXf xfs "code" (cName 0)) (cC (.str "TooMany")))) (cTup (cConsD (cXf xfs "subject" (cName 0)) (cConsD (cXf xfs "most" (cName 0)) cNilD))) (cTup (cConsD (cXf xfs "given" (cName 0)) cNilD))))))))
def m__law_field : List D → List Sl → Res Rv := defM 1 c__law_field
abbrev Ok__law_field (P : Program) (wd : World) (K : PySem.W.Frag) (mg : Str → Option Value) (base : Heap) (ce : List (Str × Addr)) : Prop := ∃ fd, FD__law_field K fd ∧ FnOk P wd K mg base (L2.CX P wd) 1 (dd__law_field.at_ K) fd ["_law_e"] (spM (Gk K ce) 1 m__law_field)
set_option maxHeartbeats 0 in
theorem ok__law_field {P : Program} {wd : World} {K : PySem.W.Frag} {mg : Str → Option Value} {base : Heap} {ce : List (Str × Addr)} (T : Tx K mg) (D0 : ∃ fd, FD__law_field K fd) : Ok__law_field P wd K mg base ce := by iterate
  obtain ⟨fd, F⟩ := D0
  refine ⟨fd, F, ?_⟩
  · refine fn_dv (Γ := Gk K ce) (N := ["_law_e"]) (ps := ["_law_e"]) (c := c__law_field) F sc__law_field fun cdv A outer s H E hr tk pas => ?_
    have hu : (A.deeper (envOfC dd__law_field.qual dd__law_field.scope s.heap.objs.size (dd__law_field.at_ K) cdv)).units + 64 < cLine := by have := hr.un; omega
    have hu1 : (A.deeper (envOfC dd__law_field.qual dd__law_field.scope s.heap.objs.size (dd__law_field.at_ K) cdv)).units + 1 < cLine := by omega
    exact (pms_cons (pms_if (inT hu1 (pm_xf rfl (T.xt ce) (nA 0) rfl) (pm_lst (pmaC pm_str (pmaC pm_str (pmaC pm_str (pmaC pm_str (pma1 pm_str))))))) (pms_one (pms_ret (pm_tup (pma1 (pm_xf rfl (T.xt ce) (nA 0) rfl))))) pms_nil)
    (pms_cons (pms_if (inT hu1 (pm_xf rfl (T.xt ce) (nA 0) rfl) (pm_lst (pmaC pm_str (pmaC pm_str (pmaC pm_str (pmaC pm_str (pma1 pm_str))))))) (pms_one (pms_ret (pm_tup pma_nil))) pms_nil)
    (pms_cons (pms_if (inT hu1 (pm_xf rfl (T.xt ce) (nA 0) rfl) (pm_lst (pmaC pm_str (pmaC pm_str (pma1 pm_str))))) (pms_one (pms_ret (pm_tup (pma1 (pm_xf rfl (T.xt ce) (nA 0) rfl))))) pms_nil)
    (pms_cons (pms_if (inT hu1 (pm_xf rfl (T.xt ce) (nA 0) rfl) (pm_lst (pmaC pm_str (pma1 pm_str)))) (pms_one (pms_ret (pm_if (eqT hu (pm_xf rfl (T.xt ce) (nA 0) rfl) pm_str) (pm_tup (pma1 (pm_xf rfl (T.xt ce) (nA 0) rfl))) (pm_tup (pma1 (pm_xf rfl (T.xt ce) (nA 0) rfl)))))) pms_nil)
    (pms_one (pms_ret (pm_if (eqT hu (pm_xf rfl (T.xt ce) (nA 0) rfl) pm_str) (pm_tup (pmaC (pm_xf rfl (T.xt ce) (nA 0) rfl) (pma1 (pm_xf rfl (T.xt ce) (nA 0) rfl)))) (pm_tup (pma1 (pm_xf rfl (T.xt ce) (nA 0) rfl))))))))))
abbrev FD__law_kinds_of (K : PySem.W.Frag) (fd : FuncData) : Prop := FunD K dd__law_kinds_of.name dd__law_kinds_of.qual dd__law_kinds_of.params dd__law_kinds_of.body dd__law_kinds_of.scope (dd__law_kinds_of.dvs K) (dd__law_kinds_of.kws K) (dd__law_kinds_of.at_ K) fd
def c__law_kinds_of : M Fl := (cSeq (cSet false 1 (cLst (cConsD (cIsX isx (cConsD (cName 0) (cConsD (cC (.cl 0)) cNilD))) (cConsD (cIsX isx (cConsD (cName 0) (cConsD (cC (.cl 1)) cNilD))) (cConsD (cIsX isx (cConsD (cName 0) (cConsD (cC (.cl 2)) cNilD))) cNilD)))))
    (cSeq (cSet false 1 (cBin oAdd (cName 1) (cLst (cConsD (cIsX isx (cConsD (cName 0) (cConsD (cC (.cl 3)) cNilD))) (cConsD (cIsX isx (cConsD (cName 0) (cConsD (cC (.cl 4)) cNilD))) (cConsD (cIsX isx (cConsD (cName 0) (cConsD (cC (.cl 5)) cNilD))) cNilD))))))
    (cSeq (cSet false 1 (cBin oAdd (cName 1) (cLst (cConsD (cIsX isx (cConsD (cName 0) (cConsD (cC (.cl 6)) cNilD))) (cConsD (cIsX isx (cConsD (cName 0) (cConsD (cC (.cl 7)) cNilD))) (cConsD (cIsX isx (cConsD (cName 0) (cConsD (cC (.cl 8)) cNilD))) cNilD))))))
    (cSeq (cSet false 1 (cBin oAdd (cName 1) (cLst (cConsD (cIsX isx (cConsD (cName 0) (cConsD (cC (.cl 9)) cNilD))) (cConsD (cIsX isx (cConsD (cName 0) (cConsD (cC (.cl 10)) cNilD))) (cConsD (cIsX isx (cConsD (cName 0) (cConsD (cC (.cl 11)) cNilD))) cNilD))))))
    (cSeq (cSet false 1 (cBin oAdd (cName 1) (cLst (cConsD (cIsX isx (cConsD (cName 0) (cConsD (cC (.cl 12)) cNilD))) (cConsD (cIsX isx (cConsD (cName 0) (cConsD (cC (.cl 13)) cNilD))) (cConsD (cIsX isx (cConsD (cName 0) (cConsD (cC (.cl 14)) cNilD))) cNilD))))))
    (cSeq (cSet false 1 (cBin oAdd (cName 1) (cLst (cConsD (cIsX isx (cConsD (cName 0) (cConsD (cC (.cl 15)) cNilD))) (cConsD (cIsX isx (cConsD (cName 0) (cConsD (cC (.cl 16)) cNilD))) (cConsD (cIsX isx (cConsD (cName 0) (cConsD (cC (.cl 17)) cNilD))) cNilD))))))
    (cSeq (cSet false 1 (cBin oAdd (cName 1) (cLst (cConsD (cIsX isx (cConsD (cName 0) (cConsD (cC (.cl 18)) cNilD))) (cConsD (cIsX isx (cConsD (cName 0) (cConsD (cC (.cl 19)) cNilD))) (cConsD (cIsX isx (cConsD (cName 0) (cConsD (cC (.cl 20)) cNilD))) cNilD))))))
    (cSeq (cSet false 1 (cBin oAdd (cName 1) (cLst (cConsD (cIsX isx (cConsD (cName 0) (cConsD (cC (.cl 21)) cNilD))) (cConsD (cIsX isx (cConsD (cName 0) (cConsD (cC (.cl 22)) cNilD))) (cConsD (cIsX isx (cConsD (cName 0) (cConsD (cC (.cl 23)) cNilD))) cNilD))))))
    (cRet (cBin oAdd (cName 1) (cLst (cConsD (cIsX isx (cConsD (cName 0) (cConsD (cC (.cl 24)) cNilD))) (cConsD (cIsX isx (cConsD (cName 0) (cConsD (cC (.cl 25)) cNilD))) cNilD)))))))))))))
def m__law_kinds_of : List D → List Sl → Res Rv := defM 2 c__law_kinds_of
abbrev Ok__law_kinds_of (P : Program) (wd : World) (K : PySem.W.Frag) (mg : Str → Option Value) (base : Heap) (ce : List (Str × Addr)) : Prop := ∃ fd, FD__law_kinds_of K fd ∧ FnOk P wd K mg base (L2.CX P wd) 1 (dd__law_kinds_of.at_ K) fd ["_law_e"] (spM (Gk K ce) 1 m__law_kinds_of)
set_option maxHeartbeats 0 in
theorem ok__law_kinds_of {P : Program} {wd : World} {K : PySem.W.Frag} {mg : Str → Option Value} {base : Heap} {ce : List (Str × Addr)} (T : Tx K mg) (D0 : ∃ fd, FD__law_kinds_of K fd) : Ok__law_kinds_of P wd K mg base ce := by iterate
  obtain ⟨fd, F⟩ := D0
  refine ⟨fd, F, ?_⟩
  · refine fn_dv (Γ := Gk K ce) (N := ["_law_e", "_law_first"]) (ps := ["_law_e"]) (c := c__law_kinds_of) F sc__law_kinds_of fun cdv A outer s H E hr tk pas => ?_
    have hu : (A.deeper (envOfC dd__law_kinds_of.qual dd__law_kinds_of.scope s.heap.objs.size (dd__law_kinds_of.at_ K) cdv)).units + 64 < cLine := by have := hr.un; omega
    have hu1 : (A.deeper (envOfC dd__law_kinds_of.qual dd__law_kinds_of.scope s.heap.objs.size (dd__law_kinds_of.at_ K) cdv)).units + 1 < cLine := by omega
    exact (pms_cons (setA (own := false) (pm_lst (pmaC (pm_isX rfl (T.isx ce) rfl T.f_isinstance (pmaC (nA 0) (pma1 (pm_cl (Γ := Gk K ce) 0 T.g_InvalidSymbols rfl (by decide)))) rfl rfl) (pmaC (pm_isX rfl (T.isx ce) rfl T.f_isinstance (pmaC (nA 0) (pma1 (pm_cl (Γ := Gk K ce) 1 T.g_InvalidSymbol rfl (by decide)))) rfl rfl) (pma1 (pm_isX rfl (T.isx ce) rfl T.f_isinstance (pmaC (nA 0) (pma1 (pm_cl (Γ := Gk K ce) 2 T.g_InvalidText rfl (by decide)))) rfl rfl))))) sc__law_kinds_of.nd)
    (pms_cons (setA (own := false) (pm_bin opAdd bAdd (nA 1) (pm_lst (pmaC (pm_isX rfl (T.isx ce) rfl T.f_isinstance (pmaC (nA 0) (pma1 (pm_cl (Γ := Gk K ce) 3 T.g_InvalidPiece rfl (by decide)))) rfl rfl) (pmaC (pm_isX rfl (T.isx ce) rfl T.f_isinstance (pmaC (nA 0) (pma1 (pm_cl (Γ := Gk K ce) 4 T.g_InvalidCost rfl (by decide)))) rfl rfl) (pma1 (pm_isX rfl (T.isx ce) rfl T.f_isinstance (pmaC (nA 0) (pma1 (pm_cl (Γ := Gk K ce) 5 T.g_InvalidRow rfl (by decide)))) rfl rfl)))))) sc__law_kinds_of.nd)
    (pms_cons (setA (own := false) (pm_bin opAdd bAdd (nA 1) (pm_lst (pmaC (pm_isX rfl (T.isx ce) rfl T.f_isinstance (pmaC (nA 0) (pma1 (pm_cl (Γ := Gk K ce) 6 T.g_InvalidVerdict rfl (by decide)))) rfl rfl) (pmaC (pm_isX rfl (T.isx ce) rfl T.f_isinstance (pmaC (nA 0) (pma1 (pm_cl (Γ := Gk K ce) 7 T.g_InvalidState rfl (by decide)))) rfl rfl) (pma1 (pm_isX rfl (T.isx ce) rfl T.f_isinstance (pmaC (nA 0) (pma1 (pm_cl (Γ := Gk K ce) 8 T.g_InvalidNumber rfl (by decide)))) rfl rfl)))))) sc__law_kinds_of.nd)
    (pms_cons (setA (own := false) (pm_bin opAdd bAdd (nA 1) (pm_lst (pmaC (pm_isX rfl (T.isx ce) rfl T.f_isinstance (pmaC (nA 0) (pma1 (pm_cl (Γ := Gk K ce) 9 T.g_InvalidName rfl (by decide)))) rfl rfl) (pmaC (pm_isX rfl (T.isx ce) rfl T.f_isinstance (pmaC (nA 0) (pma1 (pm_cl (Γ := Gk K ce) 10 T.g_InvalidReader rfl (by decide)))) rfl rfl) (pma1 (pm_isX rfl (T.isx ce) rfl T.f_isinstance (pmaC (nA 0) (pma1 (pm_cl (Γ := Gk K ce) 11 T.g_InvalidKind rfl (by decide)))) rfl rfl)))))) sc__law_kinds_of.nd)
    (pms_cons (setA (own := false) (pm_bin opAdd bAdd (nA 1) (pm_lst (pmaC (pm_isX rfl (T.isx ce) rfl T.f_isinstance (pmaC (nA 0) (pma1 (pm_cl (Γ := Gk K ce) 12 T.g_InvalidPattern rfl (by decide)))) rfl rfl) (pmaC (pm_isX rfl (T.isx ce) rfl T.f_isinstance (pmaC (nA 0) (pma1 (pm_cl (Γ := Gk K ce) 13 T.g_InvalidRule rfl (by decide)))) rfl rfl) (pma1 (pm_isX rfl (T.isx ce) rfl T.f_isinstance (pmaC (nA 0) (pma1 (pm_cl (Γ := Gk K ce) 14 T.g_InvalidCommand rfl (by decide)))) rfl rfl)))))) sc__law_kinds_of.nd)
    (pms_cons (setA (own := false) (pm_bin opAdd bAdd (nA 1) (pm_lst (pmaC (pm_isX rfl (T.isx ce) rfl T.f_isinstance (pmaC (nA 0) (pma1 (pm_cl (Γ := Gk K ce) 15 T.g_InvalidLimit rfl (by decide)))) rfl rfl) (pmaC (pm_isX rfl (T.isx ce) rfl T.f_isinstance (pmaC (nA 0) (pma1 (pm_cl (Γ := Gk K ce) 16 T.g_InvalidPage rfl (by decide)))) rfl rfl) (pma1 (pm_isX rfl (T.isx ce) rfl T.f_isinstance (pmaC (nA 0) (pma1 (pm_cl (Γ := Gk K ce) 17 T.g_UnlikeSymbols rfl (by decide)))) rfl rfl)))))) sc__law_kinds_of.nd)
    (pms_cons (setA (own := false) (pm_bin opAdd bAdd (nA 1) (pm_lst (pmaC (pm_isX rfl (T.isx ce) rfl T.f_isinstance (pmaC (nA 0) (pma1 (pm_cl (Γ := Gk K ce) 18 T.g_UnlikeNames rfl (by decide)))) rfl rfl) (pmaC (pm_isX rfl (T.isx ce) rfl T.f_isinstance (pmaC (nA 0) (pma1 (pm_cl (Γ := Gk K ce) 19 T.g_NotFewer rfl (by decide)))) rfl rfl) (pma1 (pm_isX rfl (T.isx ce) rfl T.f_isinstance (pmaC (nA 0) (pma1 (pm_cl (Γ := Gk K ce) 20 T.g_Unfounded rfl (by decide)))) rfl rfl)))))) sc__law_kinds_of.nd)
    (pms_cons (setA (own := false) (pm_bin opAdd bAdd (nA 1) (pm_lst (pmaC (pm_isX rfl (T.isx ce) rfl T.f_isinstance (pmaC (nA 0) (pma1 (pm_cl (Γ := Gk K ce) 21 T.g_NoText rfl (by decide)))) rfl rfl) (pmaC (pm_isX rfl (T.isx ce) rfl T.f_isinstance (pmaC (nA 0) (pma1 (pm_cl (Γ := Gk K ce) 22 T.g_Full rfl (by decide)))) rfl rfl) (pma1 (pm_isX rfl (T.isx ce) rfl T.f_isinstance (pmaC (nA 0) (pma1 (pm_cl (Γ := Gk K ce) 23 T.g_TooMany rfl (by decide)))) rfl rfl)))))) sc__law_kinds_of.nd)
    (pms_one (pms_ret (pm_bin opAdd bAdd (nA 1) (pm_lst (pmaC (pm_isX rfl (T.isx ce) rfl T.f_isinstance (pmaC (nA 0) (pma1 (pm_cl (Γ := Gk K ce) 24 T.g_UnknownName rfl (by decide)))) rfl rfl) (pma1 (pm_isX rfl (T.isx ce) rfl T.f_isinstance (pmaC (nA 0) (pma1 (pm_cl (Γ := Gk K ce) 25 T.g_NothingLeft rfl (by decide)))) rfl rfl)))))))))))))))
abbrev FD_InvalidSymbols___init__ (K : PySem.W.Frag) (fd : FuncData) : Prop := FunD K dd_InvalidSymbols___init__.name dd_InvalidSymbols___init__.qual dd_InvalidSymbols___init__.params dd_InvalidSymbols___init__.body dd_InvalidSymbols___init__.scope (dd_InvalidSymbols___init__.dvs K) (dd_InvalidSymbols___init__.kws K) (dd_InvalidSymbols___init__.at_ K) fd
abbrev Ok_InvalidSymbols___init__ (P : Program) (wd : World) (K : PySem.W.Frag) (mg : Str → Option Value) (base : Heap) (ce : List (Str × Addr)) : Prop := ∃ fd, FD_InvalidSymbols___init__ K fd ∧ FnOk P wd K mg base (L2.CX P wd) 1 (dd_InvalidSymbols___init__.at_ K) fd ["self", "given"] (spX (He.ga K "InvalidSymbols") "InvalidSymbols" ["given"])
set_option maxHeartbeats 0 in
theorem ok_InvalidSymbols___init__ {P : Program} {wd : World} {K : PySem.W.Frag} {mg : Str → Option Value} {base : Heap} {ce : List (Str × Addr)} (T : Tx K mg) (D0 : ∃ fd, FD_InvalidSymbols___init__ K fd) : Ok_InvalidSymbols___init__ P wd K mg base ce := by iterate
  obtain ⟨fd, F⟩ := D0
  refine ⟨fd, F, fn_exc F sc_InvalidSymbols___init__ rfl (t := tX1 K .ve "InvalidSymbols" "given") (fun cdv A outer s H E => ?_) fun vs H D E h hD => x1_ok T.ex_InvalidSymbols h hD⟩
  exact (pss_cons (ps_expr (pe_iniX rfl T.g_FromError T.xe_FromError (pa_cons (pe_var (i := 0) rfl (.inl rfl) (by decide) (by decide)) (pa_cons pe_str pa_nil rfl) rfl) (by decide) rfl rfl rfl) rfl) (pss_cons (ps_putX (b := .ve) (pe_var (i := 0) rfl (.inl rfl) (by decide) (by decide)) pe_str rfl) (pss_one (ps_putX (b := .ve) (pe_var (i := 0) rfl (.inl rfl) (by decide) (by decide)) (pe_var (i := 1) rfl (.inl rfl) (by decide) (by decide)) rfl))))
abbrev FD_InvalidSymbol___init__ (K : PySem.W.Frag) (fd : FuncData) : Prop := FunD K dd_InvalidSymbol___init__.name dd_InvalidSymbol___init__.qual dd_InvalidSymbol___init__.params dd_InvalidSymbol___init__.body dd_InvalidSymbol___init__.scope (dd_InvalidSymbol___init__.dvs K) (dd_InvalidSymbol___init__.kws K) (dd_InvalidSymbol___init__.at_ K) fd
abbrev Ok_InvalidSymbol___init__ (P : Program) (wd : World) (K : PySem.W.Frag) (mg : Str → Option Value) (base : Heap) (ce : List (Str × Addr)) : Prop := ∃ fd, FD_InvalidSymbol___init__ K fd ∧ FnOk P wd K mg base (L2.CX P wd) 1 (dd_InvalidSymbol___init__.at_ K) fd ["self", "given"] (spX (He.ga K "InvalidSymbol") "InvalidSymbol" ["given"])
set_option maxHeartbeats 0 in
theorem ok_InvalidSymbol___init__ {P : Program} {wd : World} {K : PySem.W.Frag} {mg : Str → Option Value} {base : Heap} {ce : List (Str × Addr)} (T : Tx K mg) (D0 : ∃ fd, FD_InvalidSymbol___init__ K fd) : Ok_InvalidSymbol___init__ P wd K mg base ce := by iterate
  obtain ⟨fd, F⟩ := D0
  refine ⟨fd, F, fn_exc F sc_InvalidSymbol___init__ rfl (t := tX1 K .ve "InvalidSymbol" "given") (fun cdv A outer s H E => ?_) fun vs H D E h hD => x1_ok T.ex_InvalidSymbol h hD⟩
  exact (pss_cons (ps_expr (pe_iniX rfl T.g_FromError T.xe_FromError (pa_cons (pe_var (i := 0) rfl (.inl rfl) (by decide) (by decide)) (pa_cons pe_str pa_nil rfl) rfl) (by decide) rfl rfl rfl) rfl) (pss_cons (ps_putX (b := .ve) (pe_var (i := 0) rfl (.inl rfl) (by decide) (by decide)) pe_str rfl) (pss_one (ps_putX (b := .ve) (pe_var (i := 0) rfl (.inl rfl) (by decide) (by decide)) (pe_var (i := 1) rfl (.inl rfl) (by decide) (by decide)) rfl))))
abbrev FD_InvalidText___init__ (K : PySem.W.Frag) (fd : FuncData) : Prop := FunD K dd_InvalidText___init__.name dd_InvalidText___init__.qual dd_InvalidText___init__.params dd_InvalidText___init__.body dd_InvalidText___init__.scope (dd_InvalidText___init__.dvs K) (dd_InvalidText___init__.kws K) (dd_InvalidText___init__.at_ K) fd
abbrev Ok_InvalidText___init__ (P : Program) (wd : World) (K : PySem.W.Frag) (mg : Str → Option Value) (base : Heap) (ce : List (Str × Addr)) : Prop := ∃ fd, FD_InvalidText___init__ K fd ∧ FnOk P wd K mg base (L2.CX P wd) 1 (dd_InvalidText___init__.at_ K) fd ["self", "given"] (spX (He.ga K "InvalidText") "InvalidText" ["given"])
set_option maxHeartbeats 0 in
theorem ok_InvalidText___init__ {P : Program} {wd : World} {K : PySem.W.Frag} {mg : Str → Option Value} {base : Heap} {ce : List (Str × Addr)} (T : Tx K mg) (D0 : ∃ fd, FD_InvalidText___init__ K fd) : Ok_InvalidText___init__ P wd K mg base ce := by iterate
  obtain ⟨fd, F⟩ := D0
  refine ⟨fd, F, fn_exc F sc_InvalidText___init__ rfl (t := tX1 K .ve "InvalidText" "given") (fun cdv A outer s H E => ?_) fun vs H D E h hD => x1_ok T.ex_InvalidText h hD⟩
  exact (pss_cons (ps_expr (pe_iniX rfl T.g_FromError T.xe_FromError (pa_cons (pe_var (i := 0) rfl (.inl rfl) (by decide) (by decide)) (pa_cons pe_str pa_nil rfl) rfl) (by decide) rfl rfl rfl) rfl) (pss_cons (ps_putX (b := .ve) (pe_var (i := 0) rfl (.inl rfl) (by decide) (by decide)) pe_str rfl) (pss_one (ps_putX (b := .ve) (pe_var (i := 0) rfl (.inl rfl) (by decide) (by decide)) (pe_var (i := 1) rfl (.inl rfl) (by decide) (by decide)) rfl))))
abbrev FD_InvalidPiece___init__ (K : PySem.W.Frag) (fd : FuncData) : Prop := FunD K dd_InvalidPiece___init__.name dd_InvalidPiece___init__.qual dd_InvalidPiece___init__.params dd_InvalidPiece___init__.body dd_InvalidPiece___init__.scope (dd_InvalidPiece___init__.dvs K) (dd_InvalidPiece___init__.kws K) (dd_InvalidPiece___init__.at_ K) fd
abbrev Ok_InvalidPiece___init__ (P : Program) (wd : World) (K : PySem.W.Frag) (mg : Str → Option Value) (base : Heap) (ce : List (Str × Addr)) : Prop := ∃ fd, FD_InvalidPiece___init__ K fd ∧ FnOk P wd K mg base (L2.CX P wd) 1 (dd_InvalidPiece___init__.at_ K) fd ["self", "at"] (spX (He.ga K "InvalidPiece") "InvalidPiece" ["at"])
set_option maxHeartbeats 0 in
theorem ok_InvalidPiece___init__ {P : Program} {wd : World} {K : PySem.W.Frag} {mg : Str → Option Value} {base : Heap} {ce : List (Str × Addr)} (T : Tx K mg) (D0 : ∃ fd, FD_InvalidPiece___init__ K fd) : Ok_InvalidPiece___init__ P wd K mg base ce := by iterate
  obtain ⟨fd, F⟩ := D0
  refine ⟨fd, F, fn_exc F sc_InvalidPiece___init__ rfl (t := tX1 K .ve "InvalidPiece" "at") (fun cdv A outer s H E => ?_) fun vs H D E h hD => x1_ok T.ex_InvalidPiece h hD⟩
  exact (pss_cons (ps_expr (pe_iniX rfl T.g_FromError T.xe_FromError (pa_cons (pe_var (i := 0) rfl (.inl rfl) (by decide) (by decide)) (pa_cons pe_str pa_nil rfl) rfl) (by decide) rfl rfl rfl) rfl) (pss_cons (ps_putX (b := .ve) (pe_var (i := 0) rfl (.inl rfl) (by decide) (by decide)) pe_str rfl) (pss_one (ps_putX (b := .ve) (pe_var (i := 0) rfl (.inl rfl) (by decide) (by decide)) (pe_var (i := 1) rfl (.inl rfl) (by decide) (by decide)) rfl))))
abbrev FD_InvalidCost___init__ (K : PySem.W.Frag) (fd : FuncData) : Prop := FunD K dd_InvalidCost___init__.name dd_InvalidCost___init__.qual dd_InvalidCost___init__.params dd_InvalidCost___init__.body dd_InvalidCost___init__.scope (dd_InvalidCost___init__.dvs K) (dd_InvalidCost___init__.kws K) (dd_InvalidCost___init__.at_ K) fd
abbrev Ok_InvalidCost___init__ (P : Program) (wd : World) (K : PySem.W.Frag) (mg : Str → Option Value) (base : Heap) (ce : List (Str × Addr)) : Prop := ∃ fd, FD_InvalidCost___init__ K fd ∧ FnOk P wd K mg base (L2.CX P wd) 1 (dd_InvalidCost___init__.at_ K) fd ["self", "given"] (spX (He.ga K "InvalidCost") "InvalidCost" ["given"])
set_option maxHeartbeats 0 in
theorem ok_InvalidCost___init__ {P : Program} {wd : World} {K : PySem.W.Frag} {mg : Str → Option Value} {base : Heap} {ce : List (Str × Addr)} (T : Tx K mg) (D0 : ∃ fd, FD_InvalidCost___init__ K fd) : Ok_InvalidCost___init__ P wd K mg base ce := by iterate
  obtain ⟨fd, F⟩ := D0
  refine ⟨fd, F, fn_exc F sc_InvalidCost___init__ rfl (t := tX1 K .ve "InvalidCost" "given") (fun cdv A outer s H E => ?_) fun vs H D E h hD => x1_ok T.ex_InvalidCost h hD⟩
  exact (pss_cons (ps_expr (pe_iniX rfl T.g_FromError T.xe_FromError (pa_cons (pe_var (i := 0) rfl (.inl rfl) (by decide) (by decide)) (pa_cons pe_str pa_nil rfl) rfl) (by decide) rfl rfl rfl) rfl) (pss_cons (ps_putX (b := .ve) (pe_var (i := 0) rfl (.inl rfl) (by decide) (by decide)) pe_str rfl) (pss_one (ps_putX (b := .ve) (pe_var (i := 0) rfl (.inl rfl) (by decide) (by decide)) (pe_var (i := 1) rfl (.inl rfl) (by decide) (by decide)) rfl))))
abbrev FD_InvalidRow___init__ (K : PySem.W.Frag) (fd : FuncData) : Prop := FunD K dd_InvalidRow___init__.name dd_InvalidRow___init__.qual dd_InvalidRow___init__.params dd_InvalidRow___init__.body dd_InvalidRow___init__.scope (dd_InvalidRow___init__.dvs K) (dd_InvalidRow___init__.kws K) (dd_InvalidRow___init__.at_ K) fd
abbrev Ok_InvalidRow___init__ (P : Program) (wd : World) (K : PySem.W.Frag) (mg : Str → Option Value) (base : Heap) (ce : List (Str × Addr)) : Prop := ∃ fd, FD_InvalidRow___init__ K fd ∧ FnOk P wd K mg base (L2.CX P wd) 1 (dd_InvalidRow___init__.at_ K) fd ["self", "at"] (spX (He.ga K "InvalidRow") "InvalidRow" ["at"])
set_option maxHeartbeats 0 in
theorem ok_InvalidRow___init__ {P : Program} {wd : World} {K : PySem.W.Frag} {mg : Str → Option Value} {base : Heap} {ce : List (Str × Addr)} (T : Tx K mg) (D0 : ∃ fd, FD_InvalidRow___init__ K fd) : Ok_InvalidRow___init__ P wd K mg base ce := by iterate
  obtain ⟨fd, F⟩ := D0
  refine ⟨fd, F, fn_exc F sc_InvalidRow___init__ rfl (t := tX1 K .ve "InvalidRow" "at") (fun cdv A outer s H E => ?_) fun vs H D E h hD => x1_ok T.ex_InvalidRow h hD⟩
  exact (pss_cons (ps_expr (pe_iniX rfl T.g_FromError T.xe_FromError (pa_cons (pe_var (i := 0) rfl (.inl rfl) (by decide) (by decide)) (pa_cons pe_str pa_nil rfl) rfl) (by decide) rfl rfl rfl) rfl) (pss_cons (ps_putX (b := .ve) (pe_var (i := 0) rfl (.inl rfl) (by decide) (by decide)) pe_str rfl) (pss_one (ps_putX (b := .ve) (pe_var (i := 0) rfl (.inl rfl) (by decide) (by decide)) (pe_var (i := 1) rfl (.inl rfl) (by decide) (by decide)) rfl))))
abbrev FD_InvalidVerdict___init__ (K : PySem.W.Frag) (fd : FuncData) : Prop := FunD K dd_InvalidVerdict___init__.name dd_InvalidVerdict___init__.qual dd_InvalidVerdict___init__.params dd_InvalidVerdict___init__.body dd_InvalidVerdict___init__.scope (dd_InvalidVerdict___init__.dvs K) (dd_InvalidVerdict___init__.kws K) (dd_InvalidVerdict___init__.at_ K) fd
abbrev Ok_InvalidVerdict___init__ (P : Program) (wd : World) (K : PySem.W.Frag) (mg : Str → Option Value) (base : Heap) (ce : List (Str × Addr)) : Prop := ∃ fd, FD_InvalidVerdict___init__ K fd ∧ FnOk P wd K mg base (L2.CX P wd) 1 (dd_InvalidVerdict___init__.at_ K) fd ["self", "given"] (spX (He.ga K "InvalidVerdict") "InvalidVerdict" ["given"])
set_option maxHeartbeats 0 in
theorem ok_InvalidVerdict___init__ {P : Program} {wd : World} {K : PySem.W.Frag} {mg : Str → Option Value} {base : Heap} {ce : List (Str × Addr)} (T : Tx K mg) (D0 : ∃ fd, FD_InvalidVerdict___init__ K fd) : Ok_InvalidVerdict___init__ P wd K mg base ce := by iterate
  obtain ⟨fd, F⟩ := D0
  refine ⟨fd, F, fn_exc F sc_InvalidVerdict___init__ rfl (t := tX1 K .ve "InvalidVerdict" "given") (fun cdv A outer s H E => ?_) fun vs H D E h hD => x1_ok T.ex_InvalidVerdict h hD⟩
  exact (pss_cons (ps_expr (pe_iniX rfl T.g_FromError T.xe_FromError (pa_cons (pe_var (i := 0) rfl (.inl rfl) (by decide) (by decide)) (pa_cons pe_str pa_nil rfl) rfl) (by decide) rfl rfl rfl) rfl) (pss_cons (ps_putX (b := .ve) (pe_var (i := 0) rfl (.inl rfl) (by decide) (by decide)) pe_str rfl) (pss_one (ps_putX (b := .ve) (pe_var (i := 0) rfl (.inl rfl) (by decide) (by decide)) (pe_var (i := 1) rfl (.inl rfl) (by decide) (by decide)) rfl))))
abbrev FD_InvalidState___init__ (K : PySem.W.Frag) (fd : FuncData) : Prop := FunD K dd_InvalidState___init__.name dd_InvalidState___init__.qual dd_InvalidState___init__.params dd_InvalidState___init__.body dd_InvalidState___init__.scope (dd_InvalidState___init__.dvs K) (dd_InvalidState___init__.kws K) (dd_InvalidState___init__.at_ K) fd
abbrev Ok_InvalidState___init__ (P : Program) (wd : World) (K : PySem.W.Frag) (mg : Str → Option Value) (base : Heap) (ce : List (Str × Addr)) : Prop := ∃ fd, FD_InvalidState___init__ K fd ∧ FnOk P wd K mg base (L2.CX P wd) 1 (dd_InvalidState___init__.at_ K) fd ["self", "given"] (spX (He.ga K "InvalidState") "InvalidState" ["given"])
set_option maxHeartbeats 0 in
theorem ok_InvalidState___init__ {P : Program} {wd : World} {K : PySem.W.Frag} {mg : Str → Option Value} {base : Heap} {ce : List (Str × Addr)} (T : Tx K mg) (D0 : ∃ fd, FD_InvalidState___init__ K fd) : Ok_InvalidState___init__ P wd K mg base ce := by iterate
  obtain ⟨fd, F⟩ := D0
  refine ⟨fd, F, fn_exc F sc_InvalidState___init__ rfl (t := tX1 K .ve "InvalidState" "given") (fun cdv A outer s H E => ?_) fun vs H D E h hD => x1_ok T.ex_InvalidState h hD⟩
  exact (pss_cons (ps_expr (pe_iniX rfl T.g_FromError T.xe_FromError (pa_cons (pe_var (i := 0) rfl (.inl rfl) (by decide) (by decide)) (pa_cons pe_str pa_nil rfl) rfl) (by decide) rfl rfl rfl) rfl) (pss_cons (ps_putX (b := .ve) (pe_var (i := 0) rfl (.inl rfl) (by decide) (by decide)) pe_str rfl) (pss_one (ps_putX (b := .ve) (pe_var (i := 0) rfl (.inl rfl) (by decide) (by decide)) (pe_var (i := 1) rfl (.inl rfl) (by decide) (by decide)) rfl))))
abbrev FD_InvalidNumber___init__ (K : PySem.W.Frag) (fd : FuncData) : Prop := FunD K dd_InvalidNumber___init__.name dd_InvalidNumber___init__.qual dd_InvalidNumber___init__.params dd_InvalidNumber___init__.body dd_InvalidNumber___init__.scope (dd_InvalidNumber___init__.dvs K) (dd_InvalidNumber___init__.kws K) (dd_InvalidNumber___init__.at_ K) fd
abbrev Ok_InvalidNumber___init__ (P : Program) (wd : World) (K : PySem.W.Frag) (mg : Str → Option Value) (base : Heap) (ce : List (Str × Addr)) : Prop := ∃ fd, FD_InvalidNumber___init__ K fd ∧ FnOk P wd K mg base (L2.CX P wd) 1 (dd_InvalidNumber___init__.at_ K) fd ["self", "given"] (spX (He.ga K "InvalidNumber") "InvalidNumber" ["given"])
set_option maxHeartbeats 0 in
theorem ok_InvalidNumber___init__ {P : Program} {wd : World} {K : PySem.W.Frag} {mg : Str → Option Value} {base : Heap} {ce : List (Str × Addr)} (T : Tx K mg) (D0 : ∃ fd, FD_InvalidNumber___init__ K fd) : Ok_InvalidNumber___init__ P wd K mg base ce := by iterate
  obtain ⟨fd, F⟩ := D0
  refine ⟨fd, F, fn_exc F sc_InvalidNumber___init__ rfl (t := tX1 K .ve "InvalidNumber" "given") (fun cdv A outer s H E => ?_) fun vs H D E h hD => x1_ok T.ex_InvalidNumber h hD⟩
  exact (pss_cons (ps_expr (pe_iniX rfl T.g_FromError T.xe_FromError (pa_cons (pe_var (i := 0) rfl (.inl rfl) (by decide) (by decide)) (pa_cons pe_str pa_nil rfl) rfl) (by decide) rfl rfl rfl) rfl) (pss_cons (ps_putX (b := .ve) (pe_var (i := 0) rfl (.inl rfl) (by decide) (by decide)) pe_str rfl) (pss_one (ps_putX (b := .ve) (pe_var (i := 0) rfl (.inl rfl) (by decide) (by decide)) (pe_var (i := 1) rfl (.inl rfl) (by decide) (by decide)) rfl))))
abbrev FD_InvalidName___init__ (K : PySem.W.Frag) (fd : FuncData) : Prop := FunD K dd_InvalidName___init__.name dd_InvalidName___init__.qual dd_InvalidName___init__.params dd_InvalidName___init__.body dd_InvalidName___init__.scope (dd_InvalidName___init__.dvs K) (dd_InvalidName___init__.kws K) (dd_InvalidName___init__.at_ K) fd
abbrev Ok_InvalidName___init__ (P : Program) (wd : World) (K : PySem.W.Frag) (mg : Str → Option Value) (base : Heap) (ce : List (Str × Addr)) : Prop := ∃ fd, FD_InvalidName___init__ K fd ∧ FnOk P wd K mg base (L2.CX P wd) 1 (dd_InvalidName___init__.at_ K) fd ["self", "given"] (spX (He.ga K "InvalidName") "InvalidName" ["given"])
set_option maxHeartbeats 0 in
theorem ok_InvalidName___init__ {P : Program} {wd : World} {K : PySem.W.Frag} {mg : Str → Option Value} {base : Heap} {ce : List (Str × Addr)} (T : Tx K mg) (D0 : ∃ fd, FD_InvalidName___init__ K fd) : Ok_InvalidName___init__ P wd K mg base ce := by iterate
  obtain ⟨fd, F⟩ := D0
  refine ⟨fd, F, fn_exc F sc_InvalidName___init__ rfl (t := tX1 K .ve "InvalidName" "given") (fun cdv A outer s H E => ?_) fun vs H D E h hD => x1_ok T.ex_InvalidName h hD⟩
  exact (pss_cons (ps_expr (pe_iniX rfl T.g_FromError T.xe_FromError (pa_cons (pe_var (i := 0) rfl (.inl rfl) (by decide) (by decide)) (pa_cons pe_str pa_nil rfl) rfl) (by decide) rfl rfl rfl) rfl) (pss_cons (ps_putX (b := .ve) (pe_var (i := 0) rfl (.inl rfl) (by decide) (by decide)) pe_str rfl) (pss_one (ps_putX (b := .ve) (pe_var (i := 0) rfl (.inl rfl) (by decide) (by decide)) (pe_var (i := 1) rfl (.inl rfl) (by decide) (by decide)) rfl))))
abbrev FD_InvalidReader___init__ (K : PySem.W.Frag) (fd : FuncData) : Prop := FunD K dd_InvalidReader___init__.name dd_InvalidReader___init__.qual dd_InvalidReader___init__.params dd_InvalidReader___init__.body dd_InvalidReader___init__.scope (dd_InvalidReader___init__.dvs K) (dd_InvalidReader___init__.kws K) (dd_InvalidReader___init__.at_ K) fd
abbrev Ok_InvalidReader___init__ (P : Program) (wd : World) (K : PySem.W.Frag) (mg : Str → Option Value) (base : Heap) (ce : List (Str × Addr)) : Prop := ∃ fd, FD_InvalidReader___init__ K fd ∧ FnOk P wd K mg base (L2.CX P wd) 1 (dd_InvalidReader___init__.at_ K) fd ["self", "name"] (spX (He.ga K "InvalidReader") "InvalidReader" ["name"])
set_option maxHeartbeats 0 in
theorem ok_InvalidReader___init__ {P : Program} {wd : World} {K : PySem.W.Frag} {mg : Str → Option Value} {base : Heap} {ce : List (Str × Addr)} (T : Tx K mg) (D0 : ∃ fd, FD_InvalidReader___init__ K fd) : Ok_InvalidReader___init__ P wd K mg base ce := by iterate
  obtain ⟨fd, F⟩ := D0
  refine ⟨fd, F, fn_exc F sc_InvalidReader___init__ rfl (t := tX1 K .ve "InvalidReader" "name") (fun cdv A outer s H E => ?_) fun vs H D E h hD => x1_ok T.ex_InvalidReader h hD⟩
  exact (pss_cons (ps_expr (pe_iniX rfl T.g_FromError T.xe_FromError (pa_cons (pe_var (i := 0) rfl (.inl rfl) (by decide) (by decide)) (pa_cons pe_str pa_nil rfl) rfl) (by decide) rfl rfl rfl) rfl) (pss_cons (ps_putX (b := .ve) (pe_var (i := 0) rfl (.inl rfl) (by decide) (by decide)) pe_str rfl) (pss_one (ps_putX (b := .ve) (pe_var (i := 0) rfl (.inl rfl) (by decide) (by decide)) (pe_var (i := 1) rfl (.inl rfl) (by decide) (by decide)) rfl))))
abbrev FD_InvalidKind___init__ (K : PySem.W.Frag) (fd : FuncData) : Prop := FunD K dd_InvalidKind___init__.name dd_InvalidKind___init__.qual dd_InvalidKind___init__.params dd_InvalidKind___init__.body dd_InvalidKind___init__.scope (dd_InvalidKind___init__.dvs K) (dd_InvalidKind___init__.kws K) (dd_InvalidKind___init__.at_ K) fd
abbrev Ok_InvalidKind___init__ (P : Program) (wd : World) (K : PySem.W.Frag) (mg : Str → Option Value) (base : Heap) (ce : List (Str × Addr)) : Prop := ∃ fd, FD_InvalidKind___init__ K fd ∧ FnOk P wd K mg base (L2.CX P wd) 1 (dd_InvalidKind___init__.at_ K) fd ["self", "given"] (spX (He.ga K "InvalidKind") "InvalidKind" ["given"])
set_option maxHeartbeats 0 in
theorem ok_InvalidKind___init__ {P : Program} {wd : World} {K : PySem.W.Frag} {mg : Str → Option Value} {base : Heap} {ce : List (Str × Addr)} (T : Tx K mg) (D0 : ∃ fd, FD_InvalidKind___init__ K fd) : Ok_InvalidKind___init__ P wd K mg base ce := by iterate
  obtain ⟨fd, F⟩ := D0
  refine ⟨fd, F, fn_exc F sc_InvalidKind___init__ rfl (t := tX1 K .ve "InvalidKind" "given") (fun cdv A outer s H E => ?_) fun vs H D E h hD => x1_ok T.ex_InvalidKind h hD⟩
  exact (pss_cons (ps_expr (pe_iniX rfl T.g_FromError T.xe_FromError (pa_cons (pe_var (i := 0) rfl (.inl rfl) (by decide) (by decide)) (pa_cons pe_str pa_nil rfl) rfl) (by decide) rfl rfl rfl) rfl) (pss_cons (ps_putX (b := .ve) (pe_var (i := 0) rfl (.inl rfl) (by decide) (by decide)) pe_str rfl) (pss_one (ps_putX (b := .ve) (pe_var (i := 0) rfl (.inl rfl) (by decide) (by decide)) (pe_var (i := 1) rfl (.inl rfl) (by decide) (by decide)) rfl))))
abbrev FD_InvalidPattern___init__ (K : PySem.W.Frag) (fd : FuncData) : Prop := FunD K dd_InvalidPattern___init__.name dd_InvalidPattern___init__.qual dd_InvalidPattern___init__.params dd_InvalidPattern___init__.body dd_InvalidPattern___init__.scope (dd_InvalidPattern___init__.dvs K) (dd_InvalidPattern___init__.kws K) (dd_InvalidPattern___init__.at_ K) fd
abbrev Ok_InvalidPattern___init__ (P : Program) (wd : World) (K : PySem.W.Frag) (mg : Str → Option Value) (base : Heap) (ce : List (Str × Addr)) : Prop := ∃ fd, FD_InvalidPattern___init__ K fd ∧ FnOk P wd K mg base (L2.CX P wd) 1 (dd_InvalidPattern___init__.at_ K) fd ["self", "at"] (spX (He.ga K "InvalidPattern") "InvalidPattern" ["at"])
set_option maxHeartbeats 0 in
theorem ok_InvalidPattern___init__ {P : Program} {wd : World} {K : PySem.W.Frag} {mg : Str → Option Value} {base : Heap} {ce : List (Str × Addr)} (T : Tx K mg) (D0 : ∃ fd, FD_InvalidPattern___init__ K fd) : Ok_InvalidPattern___init__ P wd K mg base ce := by iterate
  obtain ⟨fd, F⟩ := D0
  refine ⟨fd, F, fn_exc F sc_InvalidPattern___init__ rfl (t := tX1 K .ve "InvalidPattern" "at") (fun cdv A outer s H E => ?_) fun vs H D E h hD => x1_ok T.ex_InvalidPattern h hD⟩
  exact (pss_cons (ps_expr (pe_iniX rfl T.g_FromError T.xe_FromError (pa_cons (pe_var (i := 0) rfl (.inl rfl) (by decide) (by decide)) (pa_cons pe_str pa_nil rfl) rfl) (by decide) rfl rfl rfl) rfl) (pss_cons (ps_putX (b := .ve) (pe_var (i := 0) rfl (.inl rfl) (by decide) (by decide)) pe_str rfl) (pss_one (ps_putX (b := .ve) (pe_var (i := 0) rfl (.inl rfl) (by decide) (by decide)) (pe_var (i := 1) rfl (.inl rfl) (by decide) (by decide)) rfl))))
abbrev FD_InvalidRule___init__ (K : PySem.W.Frag) (fd : FuncData) : Prop := FunD K dd_InvalidRule___init__.name dd_InvalidRule___init__.qual dd_InvalidRule___init__.params dd_InvalidRule___init__.body dd_InvalidRule___init__.scope (dd_InvalidRule___init__.dvs K) (dd_InvalidRule___init__.kws K) (dd_InvalidRule___init__.at_ K) fd
abbrev Ok_InvalidRule___init__ (P : Program) (wd : World) (K : PySem.W.Frag) (mg : Str → Option Value) (base : Heap) (ce : List (Str × Addr)) : Prop := ∃ fd, FD_InvalidRule___init__ K fd ∧ FnOk P wd K mg base (L2.CX P wd) 1 (dd_InvalidRule___init__.at_ K) fd ["self", "at"] (spX (He.ga K "InvalidRule") "InvalidRule" ["at"])
set_option maxHeartbeats 0 in
theorem ok_InvalidRule___init__ {P : Program} {wd : World} {K : PySem.W.Frag} {mg : Str → Option Value} {base : Heap} {ce : List (Str × Addr)} (T : Tx K mg) (D0 : ∃ fd, FD_InvalidRule___init__ K fd) : Ok_InvalidRule___init__ P wd K mg base ce := by iterate
  obtain ⟨fd, F⟩ := D0
  refine ⟨fd, F, fn_exc F sc_InvalidRule___init__ rfl (t := tX1 K .ve "InvalidRule" "at") (fun cdv A outer s H E => ?_) fun vs H D E h hD => x1_ok T.ex_InvalidRule h hD⟩
  exact (pss_cons (ps_expr (pe_iniX rfl T.g_FromError T.xe_FromError (pa_cons (pe_var (i := 0) rfl (.inl rfl) (by decide) (by decide)) (pa_cons pe_str pa_nil rfl) rfl) (by decide) rfl rfl rfl) rfl) (pss_cons (ps_putX (b := .ve) (pe_var (i := 0) rfl (.inl rfl) (by decide) (by decide)) pe_str rfl) (pss_one (ps_putX (b := .ve) (pe_var (i := 0) rfl (.inl rfl) (by decide) (by decide)) (pe_var (i := 1) rfl (.inl rfl) (by decide) (by decide)) rfl))))
abbrev FD_InvalidCommand___init__ (K : PySem.W.Frag) (fd : FuncData) : Prop := FunD K dd_InvalidCommand___init__.name dd_InvalidCommand___init__.qual dd_InvalidCommand___init__.params dd_InvalidCommand___init__.body dd_InvalidCommand___init__.scope (dd_InvalidCommand___init__.dvs K) (dd_InvalidCommand___init__.kws K) (dd_InvalidCommand___init__.at_ K) fd
abbrev Ok_InvalidCommand___init__ (P : Program) (wd : World) (K : PySem.W.Frag) (mg : Str → Option Value) (base : Heap) (ce : List (Str × Addr)) : Prop := ∃ fd, FD_InvalidCommand___init__ K fd ∧ FnOk P wd K mg base (L2.CX P wd) 1 (dd_InvalidCommand___init__.at_ K) fd ["self", "at"] (spX (He.ga K "InvalidCommand") "InvalidCommand" ["at"])
set_option maxHeartbeats 0 in
theorem ok_InvalidCommand___init__ {P : Program} {wd : World} {K : PySem.W.Frag} {mg : Str → Option Value} {base : Heap} {ce : List (Str × Addr)} (T : Tx K mg) (D0 : ∃ fd, FD_InvalidCommand___init__ K fd) : Ok_InvalidCommand___init__ P wd K mg base ce := by iterate
  obtain ⟨fd, F⟩ := D0
  refine ⟨fd, F, fn_exc F sc_InvalidCommand___init__ rfl (t := tX1 K .ve "InvalidCommand" "at") (fun cdv A outer s H E => ?_) fun vs H D E h hD => x1_ok T.ex_InvalidCommand h hD⟩
  exact (pss_cons (ps_expr (pe_iniX rfl T.g_FromError T.xe_FromError (pa_cons (pe_var (i := 0) rfl (.inl rfl) (by decide) (by decide)) (pa_cons pe_str pa_nil rfl) rfl) (by decide) rfl rfl rfl) rfl) (pss_cons (ps_putX (b := .ve) (pe_var (i := 0) rfl (.inl rfl) (by decide) (by decide)) pe_str rfl) (pss_one (ps_putX (b := .ve) (pe_var (i := 0) rfl (.inl rfl) (by decide) (by decide)) (pe_var (i := 1) rfl (.inl rfl) (by decide) (by decide)) rfl))))
abbrev FD_InvalidLimit___init__ (K : PySem.W.Frag) (fd : FuncData) : Prop := FunD K dd_InvalidLimit___init__.name dd_InvalidLimit___init__.qual dd_InvalidLimit___init__.params dd_InvalidLimit___init__.body dd_InvalidLimit___init__.scope (dd_InvalidLimit___init__.dvs K) (dd_InvalidLimit___init__.kws K) (dd_InvalidLimit___init__.at_ K) fd
abbrev Ok_InvalidLimit___init__ (P : Program) (wd : World) (K : PySem.W.Frag) (mg : Str → Option Value) (base : Heap) (ce : List (Str × Addr)) : Prop := ∃ fd, FD_InvalidLimit___init__ K fd ∧ FnOk P wd K mg base (L2.CX P wd) 1 (dd_InvalidLimit___init__.at_ K) fd ["self", "given"] (spX (He.ga K "InvalidLimit") "InvalidLimit" ["given"])
set_option maxHeartbeats 0 in
theorem ok_InvalidLimit___init__ {P : Program} {wd : World} {K : PySem.W.Frag} {mg : Str → Option Value} {base : Heap} {ce : List (Str × Addr)} (T : Tx K mg) (D0 : ∃ fd, FD_InvalidLimit___init__ K fd) : Ok_InvalidLimit___init__ P wd K mg base ce := by iterate
  obtain ⟨fd, F⟩ := D0
  refine ⟨fd, F, fn_exc F sc_InvalidLimit___init__ rfl (t := tX1 K .ve "InvalidLimit" "given") (fun cdv A outer s H E => ?_) fun vs H D E h hD => x1_ok T.ex_InvalidLimit h hD⟩
  exact (pss_cons (ps_expr (pe_iniX rfl T.g_FromError T.xe_FromError (pa_cons (pe_var (i := 0) rfl (.inl rfl) (by decide) (by decide)) (pa_cons pe_str pa_nil rfl) rfl) (by decide) rfl rfl rfl) rfl) (pss_cons (ps_putX (b := .ve) (pe_var (i := 0) rfl (.inl rfl) (by decide) (by decide)) pe_str rfl) (pss_one (ps_putX (b := .ve) (pe_var (i := 0) rfl (.inl rfl) (by decide) (by decide)) (pe_var (i := 1) rfl (.inl rfl) (by decide) (by decide)) rfl))))
abbrev FD_InvalidPage___init__ (K : PySem.W.Frag) (fd : FuncData) : Prop := FunD K dd_InvalidPage___init__.name dd_InvalidPage___init__.qual dd_InvalidPage___init__.params dd_InvalidPage___init__.body dd_InvalidPage___init__.scope (dd_InvalidPage___init__.dvs K) (dd_InvalidPage___init__.kws K) (dd_InvalidPage___init__.at_ K) fd
abbrev Ok_InvalidPage___init__ (P : Program) (wd : World) (K : PySem.W.Frag) (mg : Str → Option Value) (base : Heap) (ce : List (Str × Addr)) : Prop := ∃ fd, FD_InvalidPage___init__ K fd ∧ FnOk P wd K mg base (L2.CX P wd) 1 (dd_InvalidPage___init__.at_ K) fd ["self", "line"] (spX (He.ga K "InvalidPage") "InvalidPage" ["line"])
set_option maxHeartbeats 0 in
theorem ok_InvalidPage___init__ {P : Program} {wd : World} {K : PySem.W.Frag} {mg : Str → Option Value} {base : Heap} {ce : List (Str × Addr)} (T : Tx K mg) (D0 : ∃ fd, FD_InvalidPage___init__ K fd) : Ok_InvalidPage___init__ P wd K mg base ce := by iterate
  obtain ⟨fd, F⟩ := D0
  refine ⟨fd, F, fn_exc F sc_InvalidPage___init__ rfl (t := tX1 K .ve "InvalidPage" "line") (fun cdv A outer s H E => ?_) fun vs H D E h hD => x1_ok T.ex_InvalidPage h hD⟩
  exact (pss_cons (ps_expr (pe_iniX rfl T.g_FromError T.xe_FromError (pa_cons (pe_var (i := 0) rfl (.inl rfl) (by decide) (by decide)) (pa_cons pe_str pa_nil rfl) rfl) (by decide) rfl rfl rfl) rfl) (pss_cons (ps_putX (b := .ve) (pe_var (i := 0) rfl (.inl rfl) (by decide) (by decide)) pe_str rfl) (pss_one (ps_putX (b := .ve) (pe_var (i := 0) rfl (.inl rfl) (by decide) (by decide)) (pe_var (i := 1) rfl (.inl rfl) (by decide) (by decide)) rfl))))
abbrev FD_UnlikeSymbols___init__ (K : PySem.W.Frag) (fd : FuncData) : Prop := FunD K dd_UnlikeSymbols___init__.name dd_UnlikeSymbols___init__.qual dd_UnlikeSymbols___init__.params dd_UnlikeSymbols___init__.body dd_UnlikeSymbols___init__.scope (dd_UnlikeSymbols___init__.dvs K) (dd_UnlikeSymbols___init__.kws K) (dd_UnlikeSymbols___init__.at_ K) fd
abbrev Ok_UnlikeSymbols___init__ (P : Program) (wd : World) (K : PySem.W.Frag) (mg : Str → Option Value) (base : Heap) (ce : List (Str × Addr)) : Prop := ∃ fd, FD_UnlikeSymbols___init__ K fd ∧ FnOk P wd K mg base (L2.CX P wd) 1 (dd_UnlikeSymbols___init__.at_ K) fd ["self", "name"] (spX (He.ga K "UnlikeSymbols") "UnlikeSymbols" ["name"])
set_option maxHeartbeats 0 in
theorem ok_UnlikeSymbols___init__ {P : Program} {wd : World} {K : PySem.W.Frag} {mg : Str → Option Value} {base : Heap} {ce : List (Str × Addr)} (T : Tx K mg) (D0 : ∃ fd, FD_UnlikeSymbols___init__ K fd) : Ok_UnlikeSymbols___init__ P wd K mg base ce := by iterate
  obtain ⟨fd, F⟩ := D0
  refine ⟨fd, F, fn_exc F sc_UnlikeSymbols___init__ rfl (t := tX1 K .ve "UnlikeSymbols" "name") (fun cdv A outer s H E => ?_) fun vs H D E h hD => x1_ok T.ex_UnlikeSymbols h hD⟩
  exact (pss_cons (ps_expr (pe_iniX rfl T.g_FromError T.xe_FromError (pa_cons (pe_var (i := 0) rfl (.inl rfl) (by decide) (by decide)) (pa_cons pe_str pa_nil rfl) rfl) (by decide) rfl rfl rfl) rfl) (pss_cons (ps_putX (b := .ve) (pe_var (i := 0) rfl (.inl rfl) (by decide) (by decide)) pe_str rfl) (pss_one (ps_putX (b := .ve) (pe_var (i := 0) rfl (.inl rfl) (by decide) (by decide)) (pe_var (i := 1) rfl (.inl rfl) (by decide) (by decide)) rfl))))
abbrev FD_UnlikeNames___init__ (K : PySem.W.Frag) (fd : FuncData) : Prop := FunD K dd_UnlikeNames___init__.name dd_UnlikeNames___init__.qual dd_UnlikeNames___init__.params dd_UnlikeNames___init__.body dd_UnlikeNames___init__.scope (dd_UnlikeNames___init__.dvs K) (dd_UnlikeNames___init__.kws K) (dd_UnlikeNames___init__.at_ K) fd
abbrev Ok_UnlikeNames___init__ (P : Program) (wd : World) (K : PySem.W.Frag) (mg : Str → Option Value) (base : Heap) (ce : List (Str × Addr)) : Prop := ∃ fd, FD_UnlikeNames___init__ K fd ∧ FnOk P wd K mg base (L2.CX P wd) 1 (dd_UnlikeNames___init__.at_ K) fd ["self"] (spX (He.ga K "UnlikeNames") "UnlikeNames" [])
set_option maxHeartbeats 0 in
theorem ok_UnlikeNames___init__ {P : Program} {wd : World} {K : PySem.W.Frag} {mg : Str → Option Value} {base : Heap} {ce : List (Str × Addr)} (T : Tx K mg) (D0 : ∃ fd, FD_UnlikeNames___init__ K fd) : Ok_UnlikeNames___init__ P wd K mg base ce := by iterate
  obtain ⟨fd, F⟩ := D0
  refine ⟨fd, F, fn_exc F sc_UnlikeNames___init__ rfl (t := tX0 K .ve "UnlikeNames") (fun cdv A outer s H E => ?_) fun vs H D E h hD => x0_ok T.ex_UnlikeNames h hD⟩
  exact (pss_cons (ps_expr (pe_iniX rfl T.g_FromError T.xe_FromError (pa_cons (pe_var (i := 0) rfl (.inl rfl) (by decide) (by decide)) (pa_cons pe_str pa_nil rfl) rfl) (by decide) rfl rfl rfl) rfl) (pss_one (ps_putX (b := .ve) (pe_var (i := 0) rfl (.inl rfl) (by decide) (by decide)) pe_str rfl)))
abbrev FD_NotFewer___init__ (K : PySem.W.Frag) (fd : FuncData) : Prop := FunD K dd_NotFewer___init__.name dd_NotFewer___init__.qual dd_NotFewer___init__.params dd_NotFewer___init__.body dd_NotFewer___init__.scope (dd_NotFewer___init__.dvs K) (dd_NotFewer___init__.kws K) (dd_NotFewer___init__.at_ K) fd
abbrev Ok_NotFewer___init__ (P : Program) (wd : World) (K : PySem.W.Frag) (mg : Str → Option Value) (base : Heap) (ce : List (Str × Addr)) : Prop := ∃ fd, FD_NotFewer___init__ K fd ∧ FnOk P wd K mg base (L2.CX P wd) 1 (dd_NotFewer___init__.at_ K) fd ["self"] (spX (He.ga K "NotFewer") "NotFewer" [])
set_option maxHeartbeats 0 in
theorem ok_NotFewer___init__ {P : Program} {wd : World} {K : PySem.W.Frag} {mg : Str → Option Value} {base : Heap} {ce : List (Str × Addr)} (T : Tx K mg) (D0 : ∃ fd, FD_NotFewer___init__ K fd) : Ok_NotFewer___init__ P wd K mg base ce := by iterate
  obtain ⟨fd, F⟩ := D0
  refine ⟨fd, F, fn_exc F sc_NotFewer___init__ rfl (t := tX0 K .ve "NotFewer") (fun cdv A outer s H E => ?_) fun vs H D E h hD => x0_ok T.ex_NotFewer h hD⟩
  exact (pss_cons (ps_expr (pe_iniX rfl T.g_FromError T.xe_FromError (pa_cons (pe_var (i := 0) rfl (.inl rfl) (by decide) (by decide)) (pa_cons pe_str pa_nil rfl) rfl) (by decide) rfl rfl rfl) rfl) (pss_one (ps_putX (b := .ve) (pe_var (i := 0) rfl (.inl rfl) (by decide) (by decide)) pe_str rfl)))
abbrev FD_Unfounded___init__ (K : PySem.W.Frag) (fd : FuncData) : Prop := FunD K dd_Unfounded___init__.name dd_Unfounded___init__.qual dd_Unfounded___init__.params dd_Unfounded___init__.body dd_Unfounded___init__.scope (dd_Unfounded___init__.dvs K) (dd_Unfounded___init__.kws K) (dd_Unfounded___init__.at_ K) fd
abbrev Ok_Unfounded___init__ (P : Program) (wd : World) (K : PySem.W.Frag) (mg : Str → Option Value) (base : Heap) (ce : List (Str × Addr)) : Prop := ∃ fd, FD_Unfounded___init__ K fd ∧ FnOk P wd K mg base (L2.CX P wd) 1 (dd_Unfounded___init__.at_ K) fd ["self"] (spX (He.ga K "Unfounded") "Unfounded" [])
set_option maxHeartbeats 0 in
theorem ok_Unfounded___init__ {P : Program} {wd : World} {K : PySem.W.Frag} {mg : Str → Option Value} {base : Heap} {ce : List (Str × Addr)} (T : Tx K mg) (D0 : ∃ fd, FD_Unfounded___init__ K fd) : Ok_Unfounded___init__ P wd K mg base ce := by iterate
  obtain ⟨fd, F⟩ := D0
  refine ⟨fd, F, fn_exc F sc_Unfounded___init__ rfl (t := tX0 K .ve "Unfounded") (fun cdv A outer s H E => ?_) fun vs H D E h hD => x0_ok T.ex_Unfounded h hD⟩
  exact (pss_cons (ps_expr (pe_iniX rfl T.g_FromError T.xe_FromError (pa_cons (pe_var (i := 0) rfl (.inl rfl) (by decide) (by decide)) (pa_cons pe_str pa_nil rfl) rfl) (by decide) rfl rfl rfl) rfl) (pss_one (ps_putX (b := .ve) (pe_var (i := 0) rfl (.inl rfl) (by decide) (by decide)) pe_str rfl)))
abbrev FD_NoText___init__ (K : PySem.W.Frag) (fd : FuncData) : Prop := FunD K dd_NoText___init__.name dd_NoText___init__.qual dd_NoText___init__.params dd_NoText___init__.body dd_NoText___init__.scope (dd_NoText___init__.dvs K) (dd_NoText___init__.kws K) (dd_NoText___init__.at_ K) fd
abbrev Ok_NoText___init__ (P : Program) (wd : World) (K : PySem.W.Frag) (mg : Str → Option Value) (base : Heap) (ce : List (Str × Addr)) : Prop := ∃ fd, FD_NoText___init__ K fd ∧ FnOk P wd K mg base (L2.CX P wd) 1 (dd_NoText___init__.at_ K) fd ["self"] (spX (He.ga K "NoText") "NoText" [])
set_option maxHeartbeats 0 in
theorem ok_NoText___init__ {P : Program} {wd : World} {K : PySem.W.Frag} {mg : Str → Option Value} {base : Heap} {ce : List (Str × Addr)} (T : Tx K mg) (D0 : ∃ fd, FD_NoText___init__ K fd) : Ok_NoText___init__ P wd K mg base ce := by iterate
  obtain ⟨fd, F⟩ := D0
  refine ⟨fd, F, fn_exc F sc_NoText___init__ rfl (t := tX0 K .ve "NoText") (fun cdv A outer s H E => ?_) fun vs H D E h hD => x0_ok T.ex_NoText h hD⟩
  exact (pss_cons (ps_expr (pe_iniX rfl T.g_FromError T.xe_FromError (pa_cons (pe_var (i := 0) rfl (.inl rfl) (by decide) (by decide)) (pa_cons pe_str pa_nil rfl) rfl) (by decide) rfl rfl rfl) rfl) (pss_one (ps_putX (b := .ve) (pe_var (i := 0) rfl (.inl rfl) (by decide) (by decide)) pe_str rfl)))
abbrev FD_Full___init__ (K : PySem.W.Frag) (fd : FuncData) : Prop := FunD K dd_Full___init__.name dd_Full___init__.qual dd_Full___init__.params dd_Full___init__.body dd_Full___init__.scope (dd_Full___init__.dvs K) (dd_Full___init__.kws K) (dd_Full___init__.at_ K) fd
abbrev Ok_Full___init__ (P : Program) (wd : World) (K : PySem.W.Frag) (mg : Str → Option Value) (base : Heap) (ce : List (Str × Addr)) : Prop := ∃ fd, FD_Full___init__ K fd ∧ FnOk P wd K mg base (L2.CX P wd) 1 (dd_Full___init__.at_ K) fd ["self", "limit"] (spX (He.ga K "Full") "Full" ["limit"])
set_option maxHeartbeats 0 in
theorem ok_Full___init__ {P : Program} {wd : World} {K : PySem.W.Frag} {mg : Str → Option Value} {base : Heap} {ce : List (Str × Addr)} (T : Tx K mg) (D0 : ∃ fd, FD_Full___init__ K fd) : Ok_Full___init__ P wd K mg base ce := by iterate
  obtain ⟨fd, F⟩ := D0
  refine ⟨fd, F, fn_exc F sc_Full___init__ rfl (t := tX1 K .ve "Full" "limit") (fun cdv A outer s H E => ?_) fun vs H D E h hD => x1_ok T.ex_Full h hD⟩
  exact (pss_cons (ps_expr (pe_iniX rfl T.g_FromError T.xe_FromError (pa_cons (pe_var (i := 0) rfl (.inl rfl) (by decide) (by decide)) (pa_cons pe_str pa_nil rfl) rfl) (by decide) rfl rfl rfl) rfl) (pss_cons (ps_putX (b := .ve) (pe_var (i := 0) rfl (.inl rfl) (by decide) (by decide)) pe_str rfl) (pss_one (ps_putX (b := .ve) (pe_var (i := 0) rfl (.inl rfl) (by decide) (by decide)) (pe_var (i := 1) rfl (.inl rfl) (by decide) (by decide)) rfl))))
abbrev FD_TooMany___init__ (K : PySem.W.Frag) (fd : FuncData) : Prop := FunD K dd_TooMany___init__.name dd_TooMany___init__.qual dd_TooMany___init__.params dd_TooMany___init__.body dd_TooMany___init__.scope (dd_TooMany___init__.dvs K) (dd_TooMany___init__.kws K) (dd_TooMany___init__.at_ K) fd
abbrev Ok_TooMany___init__ (P : Program) (wd : World) (K : PySem.W.Frag) (mg : Str → Option Value) (base : Heap) (ce : List (Str × Addr)) : Prop := ∃ fd, FD_TooMany___init__ K fd ∧ FnOk P wd K mg base (L2.CX P wd) 1 (dd_TooMany___init__.at_ K) fd ["self", "subject", "most"] (spX (He.ga K "TooMany") "TooMany" ["subject", "most"])
set_option maxHeartbeats 0 in
theorem ok_TooMany___init__ {P : Program} {wd : World} {K : PySem.W.Frag} {mg : Str → Option Value} {base : Heap} {ce : List (Str × Addr)} (T : Tx K mg) (D0 : ∃ fd, FD_TooMany___init__ K fd) : Ok_TooMany___init__ P wd K mg base ce := by iterate
  obtain ⟨fd, F⟩ := D0
  refine ⟨fd, F, fn_exc F sc_TooMany___init__ rfl (t := tX2 K .ve "TooMany" "subject" "most") (fun cdv A outer s H E => ?_) fun vs H D E h hD => x2_ok T.ex_TooMany h hD⟩
  exact (pss_cons (ps_expr (pe_iniX rfl T.g_FromError T.xe_FromError (pa_cons (pe_var (i := 0) rfl (.inl rfl) (by decide) (by decide)) (pa_cons pe_str pa_nil rfl) rfl) (by decide) rfl rfl rfl) rfl) (pss_cons (ps_putX (b := .ve) (pe_var (i := 0) rfl (.inl rfl) (by decide) (by decide)) pe_str rfl) (pss_cons (ps_putX (b := .ve) (pe_var (i := 0) rfl (.inl rfl) (by decide) (by decide)) (pe_var (i := 1) rfl (.inl rfl) (by decide) (by decide)) rfl) (pss_one (ps_putX (b := .ve) (pe_var (i := 0) rfl (.inl rfl) (by decide) (by decide)) (pe_var (i := 2) rfl (.inl rfl) (by decide) (by decide)) rfl)))))
abbrev FD_UnknownName___init__ (K : PySem.W.Frag) (fd : FuncData) : Prop := FunD K dd_UnknownName___init__.name dd_UnknownName___init__.qual dd_UnknownName___init__.params dd_UnknownName___init__.body dd_UnknownName___init__.scope (dd_UnknownName___init__.dvs K) (dd_UnknownName___init__.kws K) (dd_UnknownName___init__.at_ K) fd
abbrev Ok_UnknownName___init__ (P : Program) (wd : World) (K : PySem.W.Frag) (mg : Str → Option Value) (base : Heap) (ce : List (Str × Addr)) : Prop := ∃ fd, FD_UnknownName___init__ K fd ∧ FnOk P wd K mg base (L2.CX P wd) 1 (dd_UnknownName___init__.at_ K) fd ["self", "name"] (spX (He.ga K "UnknownName") "UnknownName" ["name"])
set_option maxHeartbeats 0 in
theorem ok_UnknownName___init__ {P : Program} {wd : World} {K : PySem.W.Frag} {mg : Str → Option Value} {base : Heap} {ce : List (Str × Addr)} (T : Tx K mg) (D0 : ∃ fd, FD_UnknownName___init__ K fd) : Ok_UnknownName___init__ P wd K mg base ce := by iterate
  obtain ⟨fd, F⟩ := D0
  refine ⟨fd, F, fn_exc F sc_UnknownName___init__ rfl (t := tX1 K .le "UnknownName" "name") (fun cdv A outer s H E => ?_) fun vs H D E h hD => x1_ok T.ex_UnknownName h hD⟩
  exact (pss_cons (ps_expr (pe_iniX rfl T.g_Missing T.xe_Missing (pa_cons (pe_var (i := 0) rfl (.inl rfl) (by decide) (by decide)) (pa_cons pe_str pa_nil rfl) rfl) (by decide) rfl rfl rfl) rfl) (pss_cons (ps_putX (b := .le) (pe_var (i := 0) rfl (.inl rfl) (by decide) (by decide)) pe_str rfl) (pss_one (ps_putX (b := .le) (pe_var (i := 0) rfl (.inl rfl) (by decide) (by decide)) (pe_var (i := 1) rfl (.inl rfl) (by decide) (by decide)) rfl))))
abbrev FD_NothingLeft___init__ (K : PySem.W.Frag) (fd : FuncData) : Prop := FunD K dd_NothingLeft___init__.name dd_NothingLeft___init__.qual dd_NothingLeft___init__.params dd_NothingLeft___init__.body dd_NothingLeft___init__.scope (dd_NothingLeft___init__.dvs K) (dd_NothingLeft___init__.kws K) (dd_NothingLeft___init__.at_ K) fd
abbrev Ok_NothingLeft___init__ (P : Program) (wd : World) (K : PySem.W.Frag) (mg : Str → Option Value) (base : Heap) (ce : List (Str × Addr)) : Prop := ∃ fd, FD_NothingLeft___init__ K fd ∧ FnOk P wd K mg base (L2.CX P wd) 1 (dd_NothingLeft___init__.at_ K) fd ["self"] (spX (He.ga K "NothingLeft") "NothingLeft" [])
set_option maxHeartbeats 0 in
theorem ok_NothingLeft___init__ {P : Program} {wd : World} {K : PySem.W.Frag} {mg : Str → Option Value} {base : Heap} {ce : List (Str × Addr)} (T : Tx K mg) (D0 : ∃ fd, FD_NothingLeft___init__ K fd) : Ok_NothingLeft___init__ P wd K mg base ce := by iterate
  obtain ⟨fd, F⟩ := D0
  refine ⟨fd, F, fn_exc F sc_NothingLeft___init__ rfl (t := tX0 K .ie "NothingLeft") (fun cdv A outer s H E => ?_) fun vs H D E h hD => x0_ok T.ex_NothingLeft h hD⟩
  exact (pss_cons (ps_expr (pe_iniIE rfl T.f_IndexError (pa_cons (pe_var (i := 0) rfl (.inl rfl) (by decide) (by decide)) (pa_cons pe_str pa_nil rfl) rfl) rfl T.vi_ rfl rfl) rfl) (pss_one (ps_putX (b := .ie) (pe_var (i := 0) rfl (.inl rfl) (by decide) (by decide)) pe_str rfl)))
abbrev FD_law (K : PySem.W.Frag) (fd : FuncData) : Prop := FunD K dd_law.name dd_law.qual dd_law.params dd_law.body dd_law.scope (dd_law.dvs K) (dd_law.kws K) (dd_law.at_ K) fd
def q_law_1 : M Fl := (cIfS (cTst (cBin (oEq true) (cName 8) (cIf (cTst (cBin oLt (cName 7) (cC (.int 24)))) (cLst (cConsD (cC (.bl true)) (cConsD (cC (.bl true)) (cConsD (cC (.bl false)) (cConsD (cC (.bl false)) (cConsD (cC (.bl false)) cNilD)))))) (cName 9)))) (cRet (cC (.bl false))) cNx)
def q_law_2 : M Fl := (cSeq (cSet false 9 (cLst (cConsD (cC (.bl false)) (cConsD (cC (.bl false)) (cConsD (cBin (oEq false) (cName 7) (cC (.int 24))) (cConsD (cC (.bl true)) (cConsD (cBin (oEq false) (cName 7) (cC (.int 25))) cNilD)))))))
    q_law_1)
def q_law_3 : M Fl := (cSeq (cSet false 8 (cBin oAdd (cName 8) (cLst (cConsD (cIsX isx (cConsD (cBin oGet (cName 4) (cName 7)) (cConsD (cC (.ty "LookupError")) cNilD))) (cConsD (cIsX isx (cConsD (cBin oGet (cName 4) (cName 7)) (cConsD (cC (.ty "IndexError")) cNilD))) cNilD)))))
    q_law_2)
def q_law_4 : M Fl := (cSeq (cSet false 8 (cLst (cConsD (cIsX isx (cConsD (cBin oGet (cName 4) (cName 7)) (cConsD (cC (.cl 26)) cNilD))) (cConsD (cIsX isx (cConsD (cBin oGet (cName 4) (cName 7)) (cConsD (cC (.ty "ValueError")) cNilD))) (cConsD (cIsX isx (cConsD (cBin oGet (cName 4) (cName 7)) (cConsD (cC (.cl 27)) cNilD))) cNilD)))))
    q_law_3)
def q_law_5 : M Fl := (cSeq (cIfS (cTst (cBin (oEq true) (cCall m__law_kinds_of 1 0 cb__law_kinds_of_1M (cConsD (cBin oGet (cName 4) (cName 7)) cNilD) cNilD) (cLc (cRng1 (cConsD (cC (.int 26)) cNilD)) [11] (.nm 11) cYes (cBin (oEq false) (cName 11) (cName 7))))) (cRet (cC (.bl false))) cNx)
    q_law_4)
def c_law : M Fl := (cSeq (cSto 1 (cCall m__law_open 1 0 cb__law_open_1M (cConsD (cName 0) cNilD) cNilD))
    (cSeq (cSet false 2 (cCall m__law_of 2 0 cb__law_of_2M (cConsD (cName 1) (cConsD (cLst (cConsD (cC .non) (cConsD (cC (.str "a")) (cConsD (cC (.int 3)) (cConsD (cTup (cConsD (cC (.str "b")) (cConsD (cC (.int 1)) cNilD))) (cConsD (cC (.bl true)) (cConsD (cLst (cConsD (cC (.int 1)) (cConsD (cC (.str "c")) cNilD))) (cConsD (cCall m__law_draw 2 0 cb__law_draw_2M (cConsD (cName 1) (cConsD (cBin oPow (cC (.int 10)) (cC (.int 18))) cNilD)) cNilD) cNilD)))))))) cNilD)) cNilD))
    (cSeq (cSet false 3 (cCall m__law_of 2 0 cb__law_of_2M (cConsD (cName 1) (cConsD (cLst (cConsD (cNeg (cC (.int 1))) (cConsD (cC (.int 0)) (cConsD (cCall m__law_draw 2 0 cb__law_draw_2M (cConsD (cName 1) (cConsD (cC (.int 400)) cNilD)) cNilD) (cConsD (cC .non) (cConsD (cC (.str "a")) cNilD)))))) cNilD)) cNilD))
    (cSeq (cSet false 4 (cLst (cConsD (cExc 0 1 0 (excF "InvalidSymbols" ["given"]) cb_InvalidSymbols___init___1M (cConsD (cName 2) cNilD) cNilD) (cConsD (cExc 1 0 1 (excF "InvalidSymbol" ["given"]) cb_InvalidSymbol___init___0_givenM cNilD (cConsD (cName 2) cNilD)) (cConsD (cExc 2 1 0 (excF "InvalidText" ["given"]) cb_InvalidText___init___1M (cConsD (cName 2) cNilD) cNilD) (cConsD (cExc 3 0 1 (excF "InvalidPiece" ["at"]) cb_InvalidPiece___init___0_atM cNilD (cConsD (cName 2) cNilD)) (cConsD (cExc 4 1 0 (excF "InvalidCost" ["given"]) cb_InvalidCost___init___1M (cConsD (cName 2) cNilD) cNilD) cNilD)))))))
    (cSeq (cSet false 4 (cBin oAdd (cName 4) (cLst (cConsD (cExc 5 1 0 (excF "InvalidRow" ["at"]) cb_InvalidRow___init___1M (cConsD (cName 2) cNilD) cNilD) (cConsD (cExc 6 0 1 (excF "InvalidVerdict" ["given"]) cb_InvalidVerdict___init___0_givenM cNilD (cConsD (cName 2) cNilD)) (cConsD (cExc 7 1 0 (excF "InvalidState" ["given"]) cb_InvalidState___init___1M (cConsD (cName 2) cNilD) cNilD) (cConsD (cExc 8 0 1 (excF "InvalidNumber" ["given"]) cb_InvalidNumber___init___0_givenM cNilD (cConsD (cName 2) cNilD)) cNilD)))))))
    (cSeq (cSet false 4 (cBin oAdd (cName 4) (cLst (cConsD (cExc 9 1 0 (excF "InvalidName" ["given"]) cb_InvalidName___init___1M (cConsD (cName 2) cNilD) cNilD) (cConsD (cExc 10 0 1 (excF "InvalidReader" ["name"]) cb_InvalidReader___init___0_nameM cNilD (cConsD (cName 2) cNilD)) (cConsD (cExc 11 1 0 (excF "InvalidKind" ["given"]) cb_InvalidKind___init___1M (cConsD (cName 2) cNilD) cNilD) (cConsD (cExc 12 0 1 (excF "InvalidPattern" ["at"]) cb_InvalidPattern___init___0_atM cNilD (cConsD (cName 2) cNilD)) (cConsD (cExc 13 1 0 (excF "InvalidRule" ["at"]) cb_InvalidRule___init___1M (cConsD (cName 2) cNilD) cNilD) cNilD))))))))
    (cSeq (cSet false 4 (cBin oAdd (cName 4) (cLst (cConsD (cExc 14 0 1 (excF "InvalidCommand" ["at"]) cb_InvalidCommand___init___0_atM cNilD (cConsD (cName 2) cNilD)) (cConsD (cExc 15 1 0 (excF "InvalidLimit" ["given"]) cb_InvalidLimit___init___1M (cConsD (cName 2) cNilD) cNilD) (cConsD (cExc 16 0 1 (excF "InvalidPage" ["line"]) cb_InvalidPage___init___0_lineM cNilD (cConsD (cName 2) cNilD)) (cConsD (cExc 17 0 1 (excF "UnlikeSymbols" ["name"]) cb_UnlikeSymbols___init___0_nameM cNilD (cConsD (cName 2) cNilD)) cNilD)))))))
    (cSeq (cSet false 4 (cBin oAdd (cName 4) (cLst (cConsD (cExc 18 0 0 (excF "UnlikeNames" []) cb_UnlikeNames___init___0M cNilD cNilD) (cConsD (cExc 19 0 0 (excF "NotFewer" []) cb_NotFewer___init___0M cNilD cNilD) (cConsD (cExc 20 0 0 (excF "Unfounded" []) cb_Unfounded___init___0M cNilD cNilD) (cConsD (cExc 21 0 0 (excF "NoText" []) cb_NoText___init___0M cNilD cNilD) (cConsD (cExc 22 0 1 (excF "Full" ["limit"]) cb_Full___init___0_limitM cNilD (cConsD (cName 2) cNilD)) (cConsD (cExc 23 1 1 (excF "TooMany" ["subject", "most"]) cb_TooMany___init___1_mostM (cConsD (cName 2) cNilD) (cConsD (cName 3) cNilD)) cNilD)))))))))
    (cSeq (cSet false 4 (cBin oAdd (cName 4) (cLst (cConsD (cExc 24 0 1 (excF "UnknownName" ["name"]) cb_UnknownName___init___0_nameM cNilD (cConsD (cName 2) cNilD)) (cConsD (cExc 25 0 0 (excF "NothingLeft" []) cb_NothingLeft___init___0M cNilD cNilD) cNilD)))))
    (cSeq (cSet false 5 (cLst (cConsD (cC (.str "InvalidSymbols")) (cConsD (cC (.str "InvalidSymbol")) (cConsD (cC (.str "InvalidText")) (cConsD (cC (.str "InvalidPiece")) (cConsD (cC (.str "InvalidCost")) (cConsD (cC (.str "InvalidRow")) cNilD))))))))
    (cSeq (cSet false 5 (cBin oAdd (cName 5) (cLst (cConsD (cC (.str "InvalidVerdict")) (cConsD (cC (.str "InvalidState")) (cConsD (cC (.str "InvalidNumber")) (cConsD (cC (.str "InvalidName")) (cConsD (cC (.str "InvalidReader")) (cConsD (cC (.str "InvalidKind")) cNilD)))))))))
    (cSeq (cSet false 5 (cBin oAdd (cName 5) (cLst (cConsD (cC (.str "InvalidPattern")) (cConsD (cC (.str "InvalidRule")) (cConsD (cC (.str "InvalidCommand")) (cConsD (cC (.str "InvalidLimit")) (cConsD (cC (.str "InvalidPage")) (cConsD (cC (.str "UnlikeSymbols")) cNilD)))))))))
    (cSeq (cSet false 5 (cBin oAdd (cName 5) (cLst (cConsD (cC (.str "UnlikeNames")) (cConsD (cC (.str "NotFewer")) (cConsD (cC (.str "Unfounded")) (cConsD (cC (.str "NoText")) (cConsD (cC (.str "Full")) (cConsD (cC (.str "TooMany")) (cConsD (cC (.str "UnknownName")) (cConsD (cC (.str "NothingLeft")) cNilD)))))))))))
    (cSeq (cSet false 6 (cLc (cRng1 (cConsD (cC (.int 26)) cNilD)) [7] (.nm 7) cYes (cIf (cTst (cBin (oIn false) (cName 7) (cTup (cConsD (cC (.int 18)) (cConsD (cC (.int 19)) (cConsD (cC (.int 20)) (cConsD (cC (.int 21)) (cConsD (cC (.int 25)) cNilD)))))))) (cTup cNilD) (cIf (cTst (cBin (oEq false) (cName 7) (cC (.int 23)))) (cTup (cConsD (cName 2) (cConsD (cName 3) cNilD))) (cTup (cConsD (cName 2) cNilD))))))
    (cSeq (cIfS (cOrB (cNotB (cTru (cCall (m__law_same 6) 2 0 cb__law_same_2M (cConsD (cLcO idF (cItsO (cName 4)) [10] (.nm 10) cYes (cXf xfs "code" (cName 10))) (cConsD (cName 5) cNilD)) cNilD))) (cNotB (cTru (cCall (m__law_same 6) 2 0 cb__law_same_2M (cConsD (cLcO idF (cItsO (cName 4)) [10] (.nm 10) cYes (cCall m__law_field 1 0 cb__law_field_1M (cConsD (cName 10) cNilD) cNilD)) (cConsD (cName 6) cNilD)) cNilD)))) (cRet (cC (.bl false))) cNx)
    (cSeq (cFor (cRng1 (cConsD (cC (.int 26)) cNilD)) (.nm 7) q_law_5)
    (cRet (cAnd (cIsX isx (cConsD (cBin oGet (cName 4) (cC (.int 0))) (cConsD (cC (.cl 26)) cNilD))) (cAnd (cIsX isx (cConsD (cBin oGet (cName 4) (cC (.int 24))) (cConsD (cC (.cl 27)) cNilD))) (cNot (cIsX isx (cConsD (cBin oGet (cName 4) (cC (.int 25))) (cConsD (cC (.cl 27)) cNilD)))))))))))))))))))))))
def m_law : List D → List Sl → Res Rv := defM 12 c_law
abbrev Ok_law (P : Program) (wd : World) (K : PySem.W.Frag) (mg : Str → Option Value) (base : Heap) (ce : List (Str × Addr)) : Prop := ∃ fd, FD_law K fd ∧ FnOk P wd K mg base (L2.CX P wd) 7 (dd_law.at_ K) fd ["_law_script"] (spM (Gk K ce) 1 m_law)
set_option maxHeartbeats 0 in
theorem ok_law {P : Program} {wd : World} {K : PySem.W.Frag} {mg : Str → Option Value} {base : Heap} {ce : List (Str × Addr)} (T : Tx K mg) (C__law_open : Ok__law_open P wd K mg base ce) (C__law_of : Ok__law_of P wd K mg base ce) (C__law_draw : Ok__law_draw P wd K mg base ce) (C_InvalidSymbols___init__ : Ok_InvalidSymbols___init__ P wd K mg base ce) (C_InvalidSymbol___init__ : Ok_InvalidSymbol___init__ P wd K mg base ce) (C_InvalidText___init__ : Ok_InvalidText___init__ P wd K mg base ce) (C_InvalidPiece___init__ : Ok_InvalidPiece___init__ P wd K mg base ce) (C_InvalidCost___init__ : Ok_InvalidCost___init__ P wd K mg base ce) (C_InvalidRow___init__ : Ok_InvalidRow___init__ P wd K mg base ce) (C_InvalidVerdict___init__ : Ok_InvalidVerdict___init__ P wd K mg base ce) (C_InvalidState___init__ : Ok_InvalidState___init__ P wd K mg base ce) (C_InvalidNumber___init__ : Ok_InvalidNumber___init__ P wd K mg base ce) (C_InvalidName___init__ : Ok_InvalidName___init__ P wd K mg base ce) (C_InvalidReader___init__ : Ok_InvalidReader___init__ P wd K mg base ce) (C_InvalidKind___init__ : Ok_InvalidKind___init__ P wd K mg base ce) (C_InvalidPattern___init__ : Ok_InvalidPattern___init__ P wd K mg base ce) (C_InvalidRule___init__ : Ok_InvalidRule___init__ P wd K mg base ce) (C_InvalidCommand___init__ : Ok_InvalidCommand___init__ P wd K mg base ce) (C_InvalidLimit___init__ : Ok_InvalidLimit___init__ P wd K mg base ce) (C_InvalidPage___init__ : Ok_InvalidPage___init__ P wd K mg base ce) (C_UnlikeSymbols___init__ : Ok_UnlikeSymbols___init__ P wd K mg base ce) (C_UnlikeNames___init__ : Ok_UnlikeNames___init__ P wd K mg base ce) (C_NotFewer___init__ : Ok_NotFewer___init__ P wd K mg base ce) (C_Unfounded___init__ : Ok_Unfounded___init__ P wd K mg base ce) (C_NoText___init__ : Ok_NoText___init__ P wd K mg base ce) (C_Full___init__ : Ok_Full___init__ P wd K mg base ce) (C_TooMany___init__ : Ok_TooMany___init__ P wd K mg base ce) (C_UnknownName___init__ : Ok_UnknownName___init__ P wd K mg base ce) (C_NothingLeft___init__ : Ok_NothingLeft___init__ P wd K mg base ce) (C__law_same : Ok__law_same 6 P wd K mg base ce) (C__law_field : Ok__law_field P wd K mg base ce) (C__law_kinds_of : Ok__law_kinds_of P wd K mg base ce) (D0 : ∃ fd, FD_law K fd) : Ok_law P wd K mg base ce := by iterate
  obtain ⟨fd, F⟩ := D0
  obtain ⟨_, F__law_open, G__law_open⟩ := C__law_open
  obtain ⟨_, F__law_of, G__law_of⟩ := C__law_of
  obtain ⟨_, F__law_draw, G__law_draw⟩ := C__law_draw
  obtain ⟨_, F_InvalidSymbols___init__, G_InvalidSymbols___init__⟩ := C_InvalidSymbols___init__
  obtain ⟨_, F_InvalidSymbol___init__, G_InvalidSymbol___init__⟩ := C_InvalidSymbol___init__
  obtain ⟨_, F_InvalidText___init__, G_InvalidText___init__⟩ := C_InvalidText___init__
  obtain ⟨_, F_InvalidPiece___init__, G_InvalidPiece___init__⟩ := C_InvalidPiece___init__
  obtain ⟨_, F_InvalidCost___init__, G_InvalidCost___init__⟩ := C_InvalidCost___init__
  obtain ⟨_, F_InvalidRow___init__, G_InvalidRow___init__⟩ := C_InvalidRow___init__
  obtain ⟨_, F_InvalidVerdict___init__, G_InvalidVerdict___init__⟩ := C_InvalidVerdict___init__
  obtain ⟨_, F_InvalidState___init__, G_InvalidState___init__⟩ := C_InvalidState___init__
  obtain ⟨_, F_InvalidNumber___init__, G_InvalidNumber___init__⟩ := C_InvalidNumber___init__
  obtain ⟨_, F_InvalidName___init__, G_InvalidName___init__⟩ := C_InvalidName___init__
  obtain ⟨_, F_InvalidReader___init__, G_InvalidReader___init__⟩ := C_InvalidReader___init__
  obtain ⟨_, F_InvalidKind___init__, G_InvalidKind___init__⟩ := C_InvalidKind___init__
  obtain ⟨_, F_InvalidPattern___init__, G_InvalidPattern___init__⟩ := C_InvalidPattern___init__
  obtain ⟨_, F_InvalidRule___init__, G_InvalidRule___init__⟩ := C_InvalidRule___init__
  obtain ⟨_, F_InvalidCommand___init__, G_InvalidCommand___init__⟩ := C_InvalidCommand___init__
  obtain ⟨_, F_InvalidLimit___init__, G_InvalidLimit___init__⟩ := C_InvalidLimit___init__
  obtain ⟨_, F_InvalidPage___init__, G_InvalidPage___init__⟩ := C_InvalidPage___init__
  obtain ⟨_, F_UnlikeSymbols___init__, G_UnlikeSymbols___init__⟩ := C_UnlikeSymbols___init__
  obtain ⟨_, F_UnlikeNames___init__, G_UnlikeNames___init__⟩ := C_UnlikeNames___init__
  obtain ⟨_, F_NotFewer___init__, G_NotFewer___init__⟩ := C_NotFewer___init__
  obtain ⟨_, F_Unfounded___init__, G_Unfounded___init__⟩ := C_Unfounded___init__
  obtain ⟨_, F_NoText___init__, G_NoText___init__⟩ := C_NoText___init__
  obtain ⟨_, F_Full___init__, G_Full___init__⟩ := C_Full___init__
  obtain ⟨_, F_TooMany___init__, G_TooMany___init__⟩ := C_TooMany___init__
  obtain ⟨_, F_UnknownName___init__, G_UnknownName___init__⟩ := C_UnknownName___init__
  obtain ⟨_, F_NothingLeft___init__, G_NothingLeft___init__⟩ := C_NothingLeft___init__
  obtain ⟨_, F__law_same, G__law_same⟩ := C__law_same
  obtain ⟨_, F__law_field, G__law_field⟩ := C__law_field
  obtain ⟨_, F__law_kinds_of, G__law_kinds_of⟩ := C__law_kinds_of
  refine ⟨fd, F, ?_⟩
  · refine fn_dv (Γ := Gk K ce) (N := ["_law_script", "_law_bag", "_law_one", "_law_two", "_law_some", "_law_codes", "_law_due", "_law_k", "_law_bases", "_law_late", "_law_e", "_law_j"]) (ps := ["_law_script"]) (c := c_law) F sc_law fun cdv A outer s H E hr tk pas => ?_
    have hu : (A.deeper (envOfC dd_law.qual dd_law.scope s.heap.objs.size (dd_law.at_ K) cdv)).units + 64 < cLine := by have := hr.un; omega
    have hu1 : (A.deeper (envOfC dd_law.qual dd_law.scope s.heap.objs.size (dd_law.at_ K) cdv)).units + 1 < cLine := by omega
    exact (pms_cons (pms_sto (clA G__law_open hr T.g__law_open F__law_open.kp (cb__law_open_1 T F__law_open) tk (pma1 (nA 0))) (by decide) sc_law.nd rfl (.inl rfl) (.inl rfl) rfl rfl)
    (pms_cons (setB (own := false) (clA G__law_of hr T.g__law_of F__law_of.kp (cb__law_of_2 T F__law_of) tk (pmaC (nA 1) (pma1 (pm_lst (pmaC pm_non (pmaC pm_str (pmaC pm_int (pmaC (pm_tup (pmaC pm_str (pma1 pm_int))) (pmaC pm_bl (pmaC (pm_lst (pmaC pm_int (pma1 pm_str))) (pma1 (clA G__law_draw hr T.g__law_draw F__law_draw.kp (cb__law_draw_2 T F__law_draw) tk (pmaC (nA 1) (pma1 (pm_bin op_pow bPow pm_int pm_int))))))))))))))) sc_law.nd)
    (pms_cons (setB (own := false) (clA G__law_of hr T.g__law_of F__law_of.kp (cb__law_of_2 T F__law_of) tk (pmaC (nA 1) (pma1 (pm_lst (pmaC (pm_neg pm_int) (pmaC pm_int (pmaC (clA G__law_draw hr T.g__law_draw F__law_draw.kp (cb__law_draw_2 T F__law_draw) tk (pmaC (nA 1) (pma1 pm_int))) (pmaC pm_non (pma1 pm_str))))))))) sc_law.nd)
    (pms_cons (setA (own := false) (pm_lst (pmaC (pm_exc (Γ := Gk K ce) (c := 0) (fs := ["given"]) (b := .ve) [] rfl (by decide) (by decide) rfl T.ex_InvalidSymbols T.ei_InvalidSymbols T.et_InvalidSymbols G_InvalidSymbols___init__ (hr.mono (by decide)) (cb_InvalidSymbols___init___1 T F_InvalidSymbols___init__) rfl T.g_InvalidSymbols passes_false (pma1 (nB 2)) pmk_nil rfl rfl (by decide) rfl rfl) (pmaC (pm_exc0 (Γ := Gk K ce) (c := 1) (fs := ["given"]) (b := .ve) ["given"] rfl (by decide) rfl T.ex_InvalidSymbol T.ei_InvalidSymbol T.et_InvalidSymbol G_InvalidSymbol___init__ (hr.mono (by decide)) (cb_InvalidSymbol___init___0_given T F_InvalidSymbol___init__) rfl T.g_InvalidSymbol passes_false (pmk_cons (nB 2) pmk_nil) rfl rfl (by decide) rfl) (pmaC (pm_exc (Γ := Gk K ce) (c := 2) (fs := ["given"]) (b := .ve) [] rfl (by decide) (by decide) rfl T.ex_InvalidText T.ei_InvalidText T.et_InvalidText G_InvalidText___init__ (hr.mono (by decide)) (cb_InvalidText___init___1 T F_InvalidText___init__) rfl T.g_InvalidText passes_false (pma1 (nB 2)) pmk_nil rfl rfl (by decide) rfl rfl) (pmaC (pm_exc0 (Γ := Gk K ce) (c := 3) (fs := ["at"]) (b := .ve) ["at"] rfl (by decide) rfl T.ex_InvalidPiece T.ei_InvalidPiece T.et_InvalidPiece G_InvalidPiece___init__ (hr.mono (by decide)) (cb_InvalidPiece___init___0_at T F_InvalidPiece___init__) rfl T.g_InvalidPiece passes_false (pmk_cons (nB 2) pmk_nil) rfl rfl (by decide) rfl) (pma1 (pm_exc (Γ := Gk K ce) (c := 4) (fs := ["given"]) (b := .ve) [] rfl (by decide) (by decide) rfl T.ex_InvalidCost T.ei_InvalidCost T.et_InvalidCost G_InvalidCost___init__ (hr.mono (by decide)) (cb_InvalidCost___init___1 T F_InvalidCost___init__) rfl T.g_InvalidCost passes_false (pma1 (nB 2)) pmk_nil rfl rfl (by decide) rfl rfl))))))) sc_law.nd)
    (pms_cons (setA (own := false) (pm_bin opAdd bAdd (nA 4) (pm_lst (pmaC (pm_exc (Γ := Gk K ce) (c := 5) (fs := ["at"]) (b := .ve) [] rfl (by decide) (by decide) rfl T.ex_InvalidRow T.ei_InvalidRow T.et_InvalidRow G_InvalidRow___init__ (hr.mono (by decide)) (cb_InvalidRow___init___1 T F_InvalidRow___init__) rfl T.g_InvalidRow passes_false (pma1 (nB 2)) pmk_nil rfl rfl (by decide) rfl rfl) (pmaC (pm_exc0 (Γ := Gk K ce) (c := 6) (fs := ["given"]) (b := .ve) ["given"] rfl (by decide) rfl T.ex_InvalidVerdict T.ei_InvalidVerdict T.et_InvalidVerdict G_InvalidVerdict___init__ (hr.mono (by decide)) (cb_InvalidVerdict___init___0_given T F_InvalidVerdict___init__) rfl T.g_InvalidVerdict passes_false (pmk_cons (nB 2) pmk_nil) rfl rfl (by decide) rfl) (pmaC (pm_exc (Γ := Gk K ce) (c := 7) (fs := ["given"]) (b := .ve) [] rfl (by decide) (by decide) rfl T.ex_InvalidState T.ei_InvalidState T.et_InvalidState G_InvalidState___init__ (hr.mono (by decide)) (cb_InvalidState___init___1 T F_InvalidState___init__) rfl T.g_InvalidState passes_false (pma1 (nB 2)) pmk_nil rfl rfl (by decide) rfl rfl) (pma1 (pm_exc0 (Γ := Gk K ce) (c := 8) (fs := ["given"]) (b := .ve) ["given"] rfl (by decide) rfl T.ex_InvalidNumber T.ei_InvalidNumber T.et_InvalidNumber G_InvalidNumber___init__ (hr.mono (by decide)) (cb_InvalidNumber___init___0_given T F_InvalidNumber___init__) rfl T.g_InvalidNumber passes_false (pmk_cons (nB 2) pmk_nil) rfl rfl (by decide) rfl))))))) sc_law.nd)
    (pms_cons (setA (own := false) (pm_bin opAdd bAdd (nA 4) (pm_lst (pmaC (pm_exc (Γ := Gk K ce) (c := 9) (fs := ["given"]) (b := .ve) [] rfl (by decide) (by decide) rfl T.ex_InvalidName T.ei_InvalidName T.et_InvalidName G_InvalidName___init__ (hr.mono (by decide)) (cb_InvalidName___init___1 T F_InvalidName___init__) rfl T.g_InvalidName passes_false (pma1 (nB 2)) pmk_nil rfl rfl (by decide) rfl rfl) (pmaC (pm_exc0 (Γ := Gk K ce) (c := 10) (fs := ["name"]) (b := .ve) ["name"] rfl (by decide) rfl T.ex_InvalidReader T.ei_InvalidReader T.et_InvalidReader G_InvalidReader___init__ (hr.mono (by decide)) (cb_InvalidReader___init___0_name T F_InvalidReader___init__) rfl T.g_InvalidReader passes_false (pmk_cons (nB 2) pmk_nil) rfl rfl (by decide) rfl) (pmaC (pm_exc (Γ := Gk K ce) (c := 11) (fs := ["given"]) (b := .ve) [] rfl (by decide) (by decide) rfl T.ex_InvalidKind T.ei_InvalidKind T.et_InvalidKind G_InvalidKind___init__ (hr.mono (by decide)) (cb_InvalidKind___init___1 T F_InvalidKind___init__) rfl T.g_InvalidKind passes_false (pma1 (nB 2)) pmk_nil rfl rfl (by decide) rfl rfl) (pmaC (pm_exc0 (Γ := Gk K ce) (c := 12) (fs := ["at"]) (b := .ve) ["at"] rfl (by decide) rfl T.ex_InvalidPattern T.ei_InvalidPattern T.et_InvalidPattern G_InvalidPattern___init__ (hr.mono (by decide)) (cb_InvalidPattern___init___0_at T F_InvalidPattern___init__) rfl T.g_InvalidPattern passes_false (pmk_cons (nB 2) pmk_nil) rfl rfl (by decide) rfl) (pma1 (pm_exc (Γ := Gk K ce) (c := 13) (fs := ["at"]) (b := .ve) [] rfl (by decide) (by decide) rfl T.ex_InvalidRule T.ei_InvalidRule T.et_InvalidRule G_InvalidRule___init__ (hr.mono (by decide)) (cb_InvalidRule___init___1 T F_InvalidRule___init__) rfl T.g_InvalidRule passes_false (pma1 (nB 2)) pmk_nil rfl rfl (by decide) rfl rfl)))))))) sc_law.nd)
    (pms_cons (setA (own := false) (pm_bin opAdd bAdd (nA 4) (pm_lst (pmaC (pm_exc0 (Γ := Gk K ce) (c := 14) (fs := ["at"]) (b := .ve) ["at"] rfl (by decide) rfl T.ex_InvalidCommand T.ei_InvalidCommand T.et_InvalidCommand G_InvalidCommand___init__ (hr.mono (by decide)) (cb_InvalidCommand___init___0_at T F_InvalidCommand___init__) rfl T.g_InvalidCommand passes_false (pmk_cons (nB 2) pmk_nil) rfl rfl (by decide) rfl) (pmaC (pm_exc (Γ := Gk K ce) (c := 15) (fs := ["given"]) (b := .ve) [] rfl (by decide) (by decide) rfl T.ex_InvalidLimit T.ei_InvalidLimit T.et_InvalidLimit G_InvalidLimit___init__ (hr.mono (by decide)) (cb_InvalidLimit___init___1 T F_InvalidLimit___init__) rfl T.g_InvalidLimit passes_false (pma1 (nB 2)) pmk_nil rfl rfl (by decide) rfl rfl) (pmaC (pm_exc0 (Γ := Gk K ce) (c := 16) (fs := ["line"]) (b := .ve) ["line"] rfl (by decide) rfl T.ex_InvalidPage T.ei_InvalidPage T.et_InvalidPage G_InvalidPage___init__ (hr.mono (by decide)) (cb_InvalidPage___init___0_line T F_InvalidPage___init__) rfl T.g_InvalidPage passes_false (pmk_cons (nB 2) pmk_nil) rfl rfl (by decide) rfl) (pma1 (pm_exc0 (Γ := Gk K ce) (c := 17) (fs := ["name"]) (b := .ve) ["name"] rfl (by decide) rfl T.ex_UnlikeSymbols T.ei_UnlikeSymbols T.et_UnlikeSymbols G_UnlikeSymbols___init__ (hr.mono (by decide)) (cb_UnlikeSymbols___init___0_name T F_UnlikeSymbols___init__) rfl T.g_UnlikeSymbols passes_false (pmk_cons (nB 2) pmk_nil) rfl rfl (by decide) rfl))))))) sc_law.nd)
    (pms_cons (setA (own := false) (pm_bin opAdd bAdd (nA 4) (pm_lst (pmaC (pm_exc0 (Γ := Gk K ce) (c := 18) (fs := []) (b := .ve) [] rfl (by decide) rfl T.ex_UnlikeNames T.ei_UnlikeNames T.et_UnlikeNames G_UnlikeNames___init__ (hr.mono (by decide)) (cb_UnlikeNames___init___0 T F_UnlikeNames___init__) rfl T.g_UnlikeNames passes_false pmk_nil rfl rfl (by decide) rfl) (pmaC (pm_exc0 (Γ := Gk K ce) (c := 19) (fs := []) (b := .ve) [] rfl (by decide) rfl T.ex_NotFewer T.ei_NotFewer T.et_NotFewer G_NotFewer___init__ (hr.mono (by decide)) (cb_NotFewer___init___0 T F_NotFewer___init__) rfl T.g_NotFewer passes_false pmk_nil rfl rfl (by decide) rfl) (pmaC (pm_exc0 (Γ := Gk K ce) (c := 20) (fs := []) (b := .ve) [] rfl (by decide) rfl T.ex_Unfounded T.ei_Unfounded T.et_Unfounded G_Unfounded___init__ (hr.mono (by decide)) (cb_Unfounded___init___0 T F_Unfounded___init__) rfl T.g_Unfounded passes_false pmk_nil rfl rfl (by decide) rfl) (pmaC (pm_exc0 (Γ := Gk K ce) (c := 21) (fs := []) (b := .ve) [] rfl (by decide) rfl T.ex_NoText T.ei_NoText T.et_NoText G_NoText___init__ (hr.mono (by decide)) (cb_NoText___init___0 T F_NoText___init__) rfl T.g_NoText passes_false pmk_nil rfl rfl (by decide) rfl) (pmaC (pm_exc0 (Γ := Gk K ce) (c := 22) (fs := ["limit"]) (b := .ve) ["limit"] rfl (by decide) rfl T.ex_Full T.ei_Full T.et_Full G_Full___init__ (hr.mono (by decide)) (cb_Full___init___0_limit T F_Full___init__) rfl T.g_Full passes_false (pmk_cons (nB 2) pmk_nil) rfl rfl (by decide) rfl) (pma1 (pm_exc (Γ := Gk K ce) (c := 23) (fs := ["subject", "most"]) (b := .ve) ["most"] rfl (by decide) (by decide) rfl T.ex_TooMany T.ei_TooMany T.et_TooMany G_TooMany___init__ (hr.mono (by decide)) (cb_TooMany___init___1_most T F_TooMany___init__) rfl T.g_TooMany passes_false (pma1 (nB 2)) (pmk_cons (nB 3) pmk_nil) rfl rfl (by decide) rfl rfl))))))))) sc_law.nd)
    (pms_cons (setA (own := false) (pm_bin opAdd bAdd (nA 4) (pm_lst (pmaC (pm_exc0 (Γ := Gk K ce) (c := 24) (fs := ["name"]) (b := .le) ["name"] rfl (by decide) rfl T.ex_UnknownName T.ei_UnknownName T.et_UnknownName G_UnknownName___init__ (hr.mono (by decide)) (cb_UnknownName___init___0_name T F_UnknownName___init__) rfl T.g_UnknownName passes_false (pmk_cons (nB 2) pmk_nil) rfl rfl (by decide) rfl) (pma1 (pm_exc0 (Γ := Gk K ce) (c := 25) (fs := []) (b := .ie) [] rfl (by decide) rfl T.ex_NothingLeft T.ei_NothingLeft T.et_NothingLeft G_NothingLeft___init__ (hr.mono (by decide)) (cb_NothingLeft___init___0 T F_NothingLeft___init__) rfl T.g_NothingLeft passes_false pmk_nil rfl rfl (by decide) rfl))))) sc_law.nd)
    (pms_cons (setA (own := false) (pm_lst (pmaC pm_str (pmaC pm_str (pmaC pm_str (pmaC pm_str (pmaC pm_str (pma1 pm_str))))))) sc_law.nd)
    (pms_cons (setA (own := false) (pm_bin opAdd bAdd (nA 5) (pm_lst (pmaC pm_str (pmaC pm_str (pmaC pm_str (pmaC pm_str (pmaC pm_str (pma1 pm_str)))))))) sc_law.nd)
    (pms_cons (setA (own := false) (pm_bin opAdd bAdd (nA 5) (pm_lst (pmaC pm_str (pmaC pm_str (pmaC pm_str (pmaC pm_str (pmaC pm_str (pma1 pm_str)))))))) sc_law.nd)
    (pms_cons (setA (own := false) (pm_bin opAdd bAdd (nA 5) (pm_lst (pmaC pm_str (pmaC pm_str (pmaC pm_str (pmaC pm_str (pmaC pm_str (pmaC pm_str (pmaC pm_str (pma1 pm_str)))))))))) sc_law.nd)
    (pms_cons (pms_setLc (own := [("_law_k", 7)]) (own' := false) rfl sc_law.nd rfl rfl (by decide) rfl (pmi_rng1 rfl T.f_range (pma1 pm_int) rfl) (show BlkOk ["_law_script", "_law_bag", "_law_one", "_law_two", "_law_some", "_law_codes", "_law_due", "_law_k", "_law_bases", "_law_late", "_law_e", "_law_j"] (defScope s_law) _ _ from blkOk_by (by decide +kernel)) (tg_nm 7) (by decide) (fun _ _ _ _ _ => (pgB 7 sc_law.nd)) (fun _ _ _ _ _ => pms_yes) (fun _ _ _ _ _ => (pm_if (inT hu1 (nA 7) (pm_tup (pmaC pm_int (pmaC pm_int (pmaC pm_int (pmaC pm_int (pma1 pm_int))))))) (pm_tup pma_nil) (pm_if (eqT hu (nA 7) pm_int) (pm_tup (pmaC (nB 2) (pma1 (nB 3)))) (pm_tup (pma1 (nB 2)))))) (fun _ => rfl))
    (pms_cons (pms_if (PW.pt (pmw_or (pm_not (teA (clA G__law_same hr T.g__law_same F__law_same.kp (cb__law_same_2 T F__law_same) tk (pmaC (loA (own := [("_law_e", 10)]) sc_law.nd (pmi_itsO rfl (nA 4)) (show BlkOk ["_law_script", "_law_bag", "_law_one", "_law_two", "_law_some", "_law_codes", "_law_due", "_law_k", "_law_bases", "_law_late", "_law_e", "_law_j"] (defScope s_law) _ _ from blkOk_by (by decide +kernel)) (tg_nm 10) (fun _ _ _ _ _ => (pgB 10 sc_law.nd)) (fun _ _ _ _ _ => (pm_xf rfl (T.xt ce) (nA 10) rfl))) (pma1 (nA 5)))))) (pmw_or1 (pm_not (teA (clA G__law_same hr T.g__law_same F__law_same.kp (cb__law_same_2 T F__law_same) tk (pmaC (loA (own := [("_law_e", 10)]) sc_law.nd (pmi_itsO rfl (nA 4)) (show BlkOk ["_law_script", "_law_bag", "_law_one", "_law_two", "_law_some", "_law_codes", "_law_due", "_law_k", "_law_bases", "_law_late", "_law_e", "_law_j"] (defScope s_law) _ _ from blkOk_by (by decide +kernel)) (tg_nm 10) (fun _ _ _ _ _ => (pgB 10 sc_law.nd)) (fun _ _ _ _ _ => (clA G__law_field hr T.g__law_field F__law_field.kp (cb__law_field_1 T F__law_field) DV.takes0 (pma1 (nA 10))))) (pma1 (nA 6))))))))) (pms_one (pms_ret pm_bl)) pms_nil)
    (pms_cons (frA pas (pmi_rng1 rfl T.f_range (pma1 pm_int) rfl) (pg_name (i := 7) sc_law.nd rfl (.inr rfl) (.inl rfl)) (tg_nm 7) (pms_cons (pms_if (neT hu (clA G__law_kinds_of hr T.g__law_kinds_of F__law_kinds_of.kp (cb__law_kinds_of_1 T F__law_kinds_of) tk (pma1 (ixA hu1 (nA 4) (nB 7)))) (lcA (own := [("_law_j", 11)]) sc_law.nd (pmi_rng1 rfl T.f_range (pma1 pm_int) rfl) (show BlkOk ["_law_script", "_law_bag", "_law_one", "_law_two", "_law_some", "_law_codes", "_law_due", "_law_k", "_law_bases", "_law_late", "_law_e", "_law_j"] (defScope s_law) _ _ from blkOk_by (by decide +kernel)) (tg_nm 11) (fun _ _ _ _ _ => (pgB 11 sc_law.nd)) (fun _ _ _ _ _ => (pm_cmp (opEq hu) bEq (nA 11) (nB 7) (nomark _))))) (pms_one (pms_ret pm_bl)) pms_nil)
    (pms_cons (setA (own := false) (pm_lst (pmaC (pm_isX rfl (T.isx ce) rfl T.f_isinstance (pmaC (ixA hu1 (nA 4) (nB 7)) (pma1 (pm_cl (Γ := Gk K ce) 26 T.g_FromError rfl (by decide)))) rfl rfl) (pmaC (pm_isX rfl (T.isx ce) rfl T.f_isinstance (pmaC (ixA hu1 (nA 4) (nB 7)) (pma1 (pm_gT T.f_ValueError (by rfl) rfl (by decide) (by decide)))) rfl rfl) (pma1 (pm_isX rfl (T.isx ce) rfl T.f_isinstance (pmaC (ixA hu1 (nA 4) (nB 7)) (pma1 (pm_cl (Γ := Gk K ce) 27 T.g_Missing rfl (by decide)))) rfl rfl))))) sc_law.nd)
    (pms_cons (setA (own := false) (pm_bin opAdd bAdd (nA 8) (pm_lst (pmaC (pm_isX rfl (T.isx ce) rfl T.f_isinstance (pmaC (ixA hu1 (nA 4) (nB 7)) (pma1 (pm_gT T.f_LookupError (by rfl) rfl (by decide) (by decide)))) rfl rfl) (pma1 (pm_isX rfl (T.isx ce) rfl T.f_isinstance (pmaC (ixA hu1 (nA 4) (nB 7)) (pma1 (pm_gT T.f_IndexError (by rfl) rfl (by decide) (by decide)))) rfl rfl))))) sc_law.nd)
    (pms_cons (setA (own := false) (pm_lst (pmaC pm_bl (pmaC pm_bl (pmaC (pm_cmp (opEq hu) bEq (nB 7) pm_int (nomark _)) (pmaC pm_bl (pma1 (pm_cmp (opEq hu) bEq (nB 7) pm_int (nomark _)))))))) sc_law.nd)
    (pms_one (pms_if (neT hu (nA 8) (pm_if (pmt_cmp op_lt bLt (nB 7) pm_int (nomark _)) (pm_lst (pmaC pm_bl (pmaC pm_bl (pmaC pm_bl (pmaC pm_bl (pma1 pm_bl)))))) (nA 9))) (pms_one (pms_ret pm_bl)) pms_nil)))))))
    (pms_one (pms_ret (pm_and rfl (pm_isX rfl (T.isx ce) rfl T.f_isinstance (pmaC (ixA hu1 (nA 4) pm_int) (pma1 (pm_cl (Γ := Gk K ce) 26 T.g_FromError rfl (by decide)))) rfl rfl) (pm_and rfl (pm_isX rfl (T.isx ce) rfl T.f_isinstance (pmaC (ixA hu1 (nA 4) pm_int) (pma1 (pm_cl (Γ := Gk K ce) 27 T.g_Missing rfl (by decide)))) rfl rfl) (pm_one (pm_notV rfl (pm_isX rfl (T.isx ce) rfl T.f_isinstance (pmaC (ixA hu1 (nA 4) pm_int) (pma1 (pm_cl (Γ := Gk K ce) 27 T.g_Missing rfl (by decide)))) rfl rfl)))))))))))))))))))))))
theorem all_ok {P : Program} {wd : World} {K : PySem.W.Frag} {h : Heap} {mg : Str → Option Value} (X : K.In h) (G : h.Ns mainGlobals mg) (c : SaysY chk fnl K) (base : Heap) : Ok_law P wd K mg base [] := by iterate
  have T := tx_of X G c.chk
  have K__law_open ce : Ok__law_open P wd K mg base ce := ok__law_open T (c.fn 0 (d := dd__law_open) rfl)
  have K__law_draw ce : Ok__law_draw P wd K mg base ce := ok__law_draw T (c.fn 1 (d := dd__law_draw) rfl)
  have K__law_of ce : Ok__law_of P wd K mg base ce := ok__law_of T (K__law_draw ce) (c.fn 2 (d := dd__law_of) rfl)
  have K__law_same : ∀ ce, ∀ n, Ok__law_same n P wd K mg base ce := fun ce => ok__law_same T (c.fn 3 (d := dd__law_same) rfl)
  have K__law_field ce : Ok__law_field P wd K mg base ce := ok__law_field T (c.fn 4 (d := dd__law_field) rfl)
  have K__law_kinds_of ce : Ok__law_kinds_of P wd K mg base ce := ok__law_kinds_of T (c.fn 5 (d := dd__law_kinds_of) rfl)
  have K_InvalidSymbols___init__ ce : Ok_InvalidSymbols___init__ P wd K mg base ce := ok_InvalidSymbols___init__ T (c.fn 6 (d := dd_InvalidSymbols___init__) rfl)
  have K_InvalidSymbol___init__ ce : Ok_InvalidSymbol___init__ P wd K mg base ce := ok_InvalidSymbol___init__ T (c.fn 7 (d := dd_InvalidSymbol___init__) rfl)
  have K_InvalidText___init__ ce : Ok_InvalidText___init__ P wd K mg base ce := ok_InvalidText___init__ T (c.fn 8 (d := dd_InvalidText___init__) rfl)
  have K_InvalidPiece___init__ ce : Ok_InvalidPiece___init__ P wd K mg base ce := ok_InvalidPiece___init__ T (c.fn 9 (d := dd_InvalidPiece___init__) rfl)
  have K_InvalidCost___init__ ce : Ok_InvalidCost___init__ P wd K mg base ce := ok_InvalidCost___init__ T (c.fn 10 (d := dd_InvalidCost___init__) rfl)
  have K_InvalidRow___init__ ce : Ok_InvalidRow___init__ P wd K mg base ce := ok_InvalidRow___init__ T (c.fn 11 (d := dd_InvalidRow___init__) rfl)
  have K_InvalidVerdict___init__ ce : Ok_InvalidVerdict___init__ P wd K mg base ce := ok_InvalidVerdict___init__ T (c.fn 12 (d := dd_InvalidVerdict___init__) rfl)
  have K_InvalidState___init__ ce : Ok_InvalidState___init__ P wd K mg base ce := ok_InvalidState___init__ T (c.fn 13 (d := dd_InvalidState___init__) rfl)
  have K_InvalidNumber___init__ ce : Ok_InvalidNumber___init__ P wd K mg base ce := ok_InvalidNumber___init__ T (c.fn 14 (d := dd_InvalidNumber___init__) rfl)
  have K_InvalidName___init__ ce : Ok_InvalidName___init__ P wd K mg base ce := ok_InvalidName___init__ T (c.fn 15 (d := dd_InvalidName___init__) rfl)
  have K_InvalidReader___init__ ce : Ok_InvalidReader___init__ P wd K mg base ce := ok_InvalidReader___init__ T (c.fn 16 (d := dd_InvalidReader___init__) rfl)
  have K_InvalidKind___init__ ce : Ok_InvalidKind___init__ P wd K mg base ce := ok_InvalidKind___init__ T (c.fn 17 (d := dd_InvalidKind___init__) rfl)
  have K_InvalidPattern___init__ ce : Ok_InvalidPattern___init__ P wd K mg base ce := ok_InvalidPattern___init__ T (c.fn 18 (d := dd_InvalidPattern___init__) rfl)
  have K_InvalidRule___init__ ce : Ok_InvalidRule___init__ P wd K mg base ce := ok_InvalidRule___init__ T (c.fn 19 (d := dd_InvalidRule___init__) rfl)
  have K_InvalidCommand___init__ ce : Ok_InvalidCommand___init__ P wd K mg base ce := ok_InvalidCommand___init__ T (c.fn 20 (d := dd_InvalidCommand___init__) rfl)
  have K_InvalidLimit___init__ ce : Ok_InvalidLimit___init__ P wd K mg base ce := ok_InvalidLimit___init__ T (c.fn 21 (d := dd_InvalidLimit___init__) rfl)
  have K_InvalidPage___init__ ce : Ok_InvalidPage___init__ P wd K mg base ce := ok_InvalidPage___init__ T (c.fn 22 (d := dd_InvalidPage___init__) rfl)
  have K_UnlikeSymbols___init__ ce : Ok_UnlikeSymbols___init__ P wd K mg base ce := ok_UnlikeSymbols___init__ T (c.fn 23 (d := dd_UnlikeSymbols___init__) rfl)
  have K_UnlikeNames___init__ ce : Ok_UnlikeNames___init__ P wd K mg base ce := ok_UnlikeNames___init__ T (c.fn 24 (d := dd_UnlikeNames___init__) rfl)
  have K_NotFewer___init__ ce : Ok_NotFewer___init__ P wd K mg base ce := ok_NotFewer___init__ T (c.fn 25 (d := dd_NotFewer___init__) rfl)
  have K_Unfounded___init__ ce : Ok_Unfounded___init__ P wd K mg base ce := ok_Unfounded___init__ T (c.fn 26 (d := dd_Unfounded___init__) rfl)
  have K_NoText___init__ ce : Ok_NoText___init__ P wd K mg base ce := ok_NoText___init__ T (c.fn 27 (d := dd_NoText___init__) rfl)
  have K_Full___init__ ce : Ok_Full___init__ P wd K mg base ce := ok_Full___init__ T (c.fn 28 (d := dd_Full___init__) rfl)
  have K_TooMany___init__ ce : Ok_TooMany___init__ P wd K mg base ce := ok_TooMany___init__ T (c.fn 29 (d := dd_TooMany___init__) rfl)
  have K_UnknownName___init__ ce : Ok_UnknownName___init__ P wd K mg base ce := ok_UnknownName___init__ T (c.fn 30 (d := dd_UnknownName___init__) rfl)
  have K_NothingLeft___init__ ce : Ok_NothingLeft___init__ P wd K mg base ce := ok_NothingLeft___init__ T (c.fn 31 (d := dd_NothingLeft___init__) rfl)
  have K_law ce : Ok_law P wd K mg base ce := ok_law T (K__law_open ce) (K__law_of ce) (K__law_draw ce) (K_InvalidSymbols___init__ ce) (K_InvalidSymbol___init__ ce) (K_InvalidText___init__ ce) (K_InvalidPiece___init__ ce) (K_InvalidCost___init__ ce) (K_InvalidRow___init__ ce) (K_InvalidVerdict___init__ ce) (K_InvalidState___init__ ce) (K_InvalidNumber___init__ ce) (K_InvalidName___init__ ce) (K_InvalidReader___init__ ce) (K_InvalidKind___init__ ce) (K_InvalidPattern___init__ ce) (K_InvalidRule___init__ ce) (K_InvalidCommand___init__ ce) (K_InvalidLimit___init__ ce) (K_InvalidPage___init__ ce) (K_UnlikeSymbols___init__ ce) (K_UnlikeNames___init__ ce) (K_NotFewer___init__ ce) (K_Unfounded___init__ ce) (K_NoText___init__ ce) (K_Full___init__ ce) (K_TooMany___init__ ce) (K_UnknownName___init__ ce) (K_NothingLeft___init__ ce) (K__law_same ce 6) (K__law_field ce) (K__law_kinds_of ce) (c.fn 32 (d := dd_law) rfl)
  exact K_law []
end Lk01
section
local macro_rules
  | `(tactic| simp_arith) => `(tactic| repeat (first
    | ((with_reducible refine DV.gd_wp ?_); first
      | (((with_reducible (refine DV.Sh.out ?_; apply DV.h_wp_name))); (focus ((with_reducible (repeat (first | apply DV.nt_s | apply DV.nt_z | apply DV.nt_app | apply DV.nt_app0)); done))))
      | with_reducible refine DV.wp_C ?_
      | with_reducible refine DV.wp_consD ?_
      | with_reducible refine DV.wp_nilD ?_
      | with_reducible refine DV.wp_consR ?_
      | with_reducible refine DV.wp_nilR ?_
      | with_reducible refine DV.wp_bin ?_
      | with_reducible refine DV.wp_seq ?_
      | with_reducible refine DV.wp_set ?_
      | with_reducible refine DV.wp_ifS ?_
      | with_reducible refine DV.wp_tst ?_
      | with_reducible refine DV.wp_blt ?_
      | with_reducible refine DV.wp_call ?_
      | with_reducible refine DV.wp_ret ?_
      | with_reducible refine DV.wp_nx ?_
      | with_reducible refine DV.wp_andB ?_
      | with_reducible refine DV.wp_orB ?_
      | with_reducible refine DV.wp_notB ?_
      | with_reducible refine DV.wp_tru ?_
      | with_reducible refine DV.wp_if ?_
      | with_reducible refine DV.wp_and ?_
      | with_reducible refine DV.wp_or ?_
      | with_reducible refine DV.wp_not ?_
      | with_reducible refine DV.wp_put ?_
      | with_reducible refine DV.wp_mm ?_
      | with_reducible refine DV.wp_lst ?_
      | with_reducible refine DV.wp_rev ?_
      | with_reducible refine DV.wp_tup ?_
      | with_reducible refine DV.wp_chain ?_
      | with_reducible refine DV.wp_isi ?_
      | with_reducible refine DV.wp_for ?_
      | with_reducible refine DV.wp_forO ?_
      | with_reducible refine DV.wp_its ?_
      | with_reducible refine DV.wp_itsO ?_
      | with_reducible refine DV.wp_enumO ?_
      | with_reducible refine DV.wp_enumA ?_
      | with_reducible refine DV.wp_rng1 ?_
      | with_reducible refine DV.wp_rng2 ?_
      | with_reducible refine DV.wp_zip ?_
      | with_reducible refine DV.wp_lc ?_
      | with_reducible refine DV.wp_lcO ?_
      | with_reducible refine DV.wp_yes ?_
      | with_reducible refine DV.wp_mt ?_
      | with_reducible refine DV.wp_sl ?_
      | with_reducible refine DV.wp_noP ?_
      | with_reducible refine DV.wp_part ?_
      | with_reducible refine DV.wp_neg ?_
      | with_reducible refine DV.wp_drop ?_
      | with_reducible refine DV.wp_retN ?_
      | with_reducible refine DV.wp_sto ?_
      | with_reducible refine DV.wp_stoE ?_
      | with_reducible refine DV.wp_par2 ?_
      | with_reducible refine DV.wp_par ?_
      | with_reducible refine DV.wp_par3 ?_
      | with_reducible refine DV.wp_setT ?_
      | with_reducible refine DV.wp_fld ?_
      | with_reducible refine DV.wp_fst ?_
      | with_reducible refine DV.wp_meth ?_
      | with_reducible refine DV.wp_prop ?_
      | with_reducible refine DV.wp_kon ?_
      | with_reducible refine DV.wp_fmt ?_
      | with_reducible refine DV.wp_js ?_
      | with_reducible refine DV.wp_jsN ?_
      | with_reducible refine DV.wp_jsC ?_
      | with_reducible refine DV.wp_op2 ?_
      | with_reducible refine DV.wp_op1 ?_
      | with_reducible refine DV.wp_lenSet ?_
      | with_reducible refine DV.wp_get2 ?_
      | with_reducible refine DV.wp_get1 ?_
      | with_reducible refine DV.wp_items ?_
      | with_reducible refine DV.wp_vals ?_
      | with_reducible refine DV.wp_dc ?_
      | with_reducible refine DV.wp_disp ?_
      | with_reducible refine DV.wp_consP ?_
      | with_reducible refine DV.wp_dic0 ?_
      | with_reducible refine DV.wp_dic0T ?_
      | with_reducible refine DV.wp_setO ?_
      | with_reducible refine DV.wp_raise ?_
      | with_reducible refine DV.wp_callE ?_
      | (((with_reducible (refine DV.Sh.out ?_; apply DV.h_wp_lam))); (focus ((with_reducible (repeat (first | apply DV.nt_s | apply DV.nt_z | apply DV.nt_app | apply DV.nt_app0)); done))))
      | (((with_reducible (refine DV.Sh.out ?_; apply DV.h_wp_nameO))); (focus ((with_reducible (repeat (first | apply DV.nt_s | apply DV.nt_z | apply DV.nt_app | apply DV.nt_app0)); done))); exact rfl)
      | (((with_reducible (refine DV.Sh.out ?_; apply DV.h_wp_nameI))); (focus ((with_reducible (repeat (first | apply DV.nt_s | apply DV.nt_z | apply DV.nt_app | apply DV.nt_app0)); done)))))
    | ((with_reducible refine DV.gd_wF ?_); first
      | with_reducible refine DV.wF_d ?_
      | with_reducible refine DV.wF_frl ?_
      | with_reducible refine DV.wF_frd ?_
      | with_reducible refine DV.wF_fro ?_
      | (((with_reducible (refine DV.Sh.out ?_; apply DV.h_wF_envK))); (focus ((with_reducible (repeat (first | apply DV.nt_s | apply DV.nt_z | apply DV.nt_app | apply DV.nt_app0)); done))))
      | (((with_reducible (refine DV.Sh.out ?_; apply DV.h_wF_envl))); (focus ((with_reducible (repeat (first | apply DV.nt_s | apply DV.nt_z | apply DV.nt_app | apply DV.nt_app0)); done)))))
    | ((with_reducible refine DV.gd_wS ?_); first
      | (with_reducible (refine DV.Sh.out ?_; apply DV.h_wS_d))
      | (with_reducible (refine DV.Sh.out ?_; apply DV.h_wS_frfl))
      | (with_reducible (refine DV.Sh.out ?_; apply DV.h_wS_frd))
      | (((with_reducible (refine DV.Sh.out ?_; apply DV.h_wS_envK))); (focus ((with_reducible (repeat (first | apply DV.nt_s | apply DV.nt_z | apply DV.nt_app | apply DV.nt_app0)); done))))
      | (((with_reducible (refine DV.Sh.out ?_; apply DV.h_wS_envl))); (focus ((with_reducible (repeat (first | apply DV.nt_s | apply DV.nt_z | apply DV.nt_app | apply DV.nt_app0)); done))))
      | (with_reducible (refine DV.Sh.out ?_; apply DV.h_wS_frt))
      | (with_reducible (refine DV.Sh.out ?_; apply DV.h_wS_fro)))
    | ((with_reducible (refine DV.Sh.out ?_; apply DV.h_st)); first
      | with_reducible apply DV.st_z
      | with_reducible apply DV.st_s
      | with_reducible apply DV.st_app
      | with_reducible apply DV.st_app0)
    | ((with_reducible refine DV.gd_wO ?_); first
      | with_reducible refine DV.wO_add_int ?_
      | with_reducible refine DV.wO_sub_int ?_
      | ((with_reducible refine DV.wO_mul_int (Or.inr (Or.inl ?_)) ?_); decide)
      | ((with_reducible refine DV.wO_mul_int (Or.inl ?_) ?_); decide)
      | ((with_reducible refine DV.wO_mod_int ?_ ?_); decide)
      | ((with_reducible refine DV.wO_fdiv_int ?_ ?_ ?_); decide; decide)
      | with_reducible refine DV.wO_lt_int ?_
      | with_reducible refine DV.wO_le_int ?_
      | with_reducible refine DV.wO_gt_int ?_
      | with_reducible refine DV.wO_ge_int ?_
      | with_reducible refine DV.wO_eq_int ?_
      | with_reducible refine DV.wO_ne_int ?_
      | with_reducible refine DV.wO_eq_str ?_
      | with_reducible refine DV.wO_ne_str ?_
      | with_reducible refine DV.wO_eq_bl ?_
      | with_reducible refine DV.wO_ne_bl ?_
      | with_reducible refine DV.wO_in_str ?_
      | with_reducible refine DV.wO_get_lst DV.atI_0 ?_
      | with_reducible refine DV.wO_get_lst DV.atI_1 ?_
      | with_reducible refine DV.wO_get_lst DV.atI_2 ?_
      | with_reducible refine DV.wO_get_lst DV.atI_3 ?_
      | with_reducible refine DV.wO_get_lst DV.atI_4 ?_
      | with_reducible refine DV.wO_get_tup DV.atI_0 ?_
      | with_reducible refine DV.wO_get_tup DV.atI_1 ?_
      | with_reducible refine DV.wO_get_tup DV.atI_2 ?_
      | with_reducible refine DV.wO_get_tup DV.atI_3 ?_
      | with_reducible refine DV.wO_tru_bl ?_
      | with_reducible refine DV.wO_len_lst ?_
      | with_reducible refine DV.wO_len_tup ?_
      | with_reducible refine DV.wO_len_kl ?_
      | with_reducible refine DV.wO_len_dK ?_
      | with_reducible refine DV.wO_len_dT ?_
      | with_reducible refine DV.wO_len_kt ?_
      | with_reducible refine DV.wO_gint ?_
      | with_reducible refine DV.wO_gabs ?_
      | with_reducible refine DV.wO_list_lst ?_
      | with_reducible refine DV.wO_list_kl ?_
      | with_reducible refine DV.wO_list_tup ?_
      | with_reducible refine DV.wO_list_kt ?_
      | with_reducible refine DV.wO_list_dK ?_
      | with_reducible refine DV.wO_itm ?_
      | with_reducible refine DV.wO_dict2_d ?_
      | with_reducible refine DV.wO_dgs ?_
      | with_reducible refine DV.wO_dgi ?_
      | ((with_reducible refine DV.wO_list_str ?_ ?_); focus first | assumption | exact DV.le_line (by decide +kernel))
      | ((with_reducible refine DV.wO_len_str ?_ ?_); focus first | assumption | exact DV.le_line (by decide +kernel))
      | ((with_reducible refine DV.wO_tru_str ?_ ?_); focus first | assumption | exact DV.le_line (by decide +kernel))
      | ((with_reducible refine DV.wO_cut_str ?_ ?_); focus first | assumption | exact DV.le_line (by decide +kernel))
      | with_reducible refine DV.wO_tup_lst ?_
      | with_reducible refine DV.wO_tup_tup ?_
      | ((with_reducible refine DV.wO_isi_t ?_ ?_); exact rfl)
      | ((with_reducible refine DV.wO_isi_f ?_ ?_); exact rfl)
      | ((with_reducible refine DV.wO_is_t ?_ ?_); exact rfl)
      | ((with_reducible refine DV.wO_is_f ?_ ?_); exact rfl)
      | ((with_reducible refine DV.wO_rng1 ?_ ?_); decide)
      | ((with_reducible refine DV.wO_rng2 ?_ ?_); decide)
      | with_reducible refine DV.wO_zip_ll ?_
      | with_reducible refine DV.wO_zip_tt ?_
      | with_reducible refine DV.wO_zip_tk ?_
      | with_reducible refine DV.wO_zip_kt ?_
      | with_reducible refine DV.wO_its_lst ?_
      | with_reducible refine DV.wO_its_kl ?_
      | with_reducible refine DV.wO_its_tup ?_
      | with_reducible refine DV.wO_its_kt ?_
      | with_reducible refine DV.wO_its_str ?_
      | with_reducible refine DV.wO_src_lst ?_
      | with_reducible refine DV.wO_src_kl ?_
      | with_reducible refine DV.wO_src_tup ?_
      | with_reducible refine DV.wO_src_kt ?_
      | with_reducible refine DV.wO_src_str ?_
      | ((with_reducible apply DV.wO_src_ob); (focus ((with_reducible (repeat (first | apply DV.nt_s | apply DV.nt_z | apply DV.nt_app | apply DV.nt_app0)); done))))
      | with_reducible refine DV.wO_esrc_lst ?_
      | with_reducible refine DV.wO_esrc_kl ?_
      | with_reducible refine DV.wO_esrc_tup ?_
      | with_reducible refine DV.wO_esrc_kt ?_
      | with_reducible refine DV.wO_esrc_str ?_
      | ((with_reducible apply DV.wO_esrc_ob); (focus ((with_reducible (repeat (first | apply DV.nt_s | apply DV.nt_z | apply DV.nt_app | apply DV.nt_app0)); done))))
      | with_reducible refine DV.wO_part ?_
      | with_reducible refine DV.wO_cut_lst ?_
      | with_reducible refine DV.wO_cut_kl ?_
      | with_reducible refine DV.wO_rev_lst ?_
      | with_reducible refine DV.wO_rev_kl ?_
      | with_reducible refine DV.wO_asInt ?_
      | with_reducible refine DV.wO_items_lst ?_
      | ((with_reducible apply DV.wO_fld_ins); focus decide +kernel))
    | ((with_reducible refine DV.gd_wC ?_); first
      | with_reducible refine DV.wC_int ?_
      | with_reducible refine DV.wC_str ?_
      | with_reducible refine DV.wC_lst ?_
      | with_reducible refine DV.wC_tup ?_
      | ((with_reducible apply DV.wC_ob); (focus ((with_reducible (repeat (first | apply DV.nt_s | apply DV.nt_z | apply DV.nt_app | apply DV.nt_app0)); done))))
      | ((with_reducible apply DV.wC_env); (focus ((with_reducible (repeat (first | apply DV.nt_s | apply DV.nt_z | apply DV.nt_app | apply DV.nt_app0)); done))))
      | ((with_reducible apply DV.wC_envK); (focus ((with_reducible (repeat (first | apply DV.nt_s | apply DV.nt_z | apply DV.nt_app | apply DV.nt_app0)); done))))
      | ((with_reducible apply DV.wC_envT); (focus ((with_reducible (repeat (first | apply DV.nt_s | apply DV.nt_z | apply DV.nt_app | apply DV.nt_app0)); done))))
      | ((with_reducible apply DV.wC_obK); (focus ((with_reducible (repeat (first | apply DV.nt_s | apply DV.nt_z | apply DV.nt_app | apply DV.nt_app0)); done))))
      | with_reducible refine DV.wC_frl ?_
      | with_reducible refine DV.wC_bl ?_
      | with_reducible refine DV.wC_non ?_
      | with_reducible refine DV.wC_kl ?_
      | with_reducible refine DV.wC_kt ?_
      | with_reducible refine DV.wC_ty ?_
      | with_reducible refine DV.wC_cl ?_
      | with_reducible refine DV.wC_ins ?_
      | with_reducible refine DV.wC_dK ?_
      | with_reducible refine DV.wC_frd ?_)
    | ((with_reducible (refine DV.Sh.out ?_; apply DV.h_nt)); first
      | with_reducible apply DV.nt_z
      | with_reducible apply DV.nt_s
      | with_reducible apply DV.nt_app
      | with_reducible apply DV.nt_app0)
    | ((with_reducible refine DV.gd_wN ?_); first
      | with_reducible refine DV.wN_nx ?_
      | with_reducible refine DV.wN_rt ?_
      | with_reducible refine DV.wN_bk ?_
      | with_reducible refine DV.wN_ct ?_)
    | ((with_reducible refine DV.gd_wArg ?_); (with_reducible (refine DV.Sh.out ?_; apply DV.h_wArg_mk)))
    | ((with_reducible (refine DV.Sh.out ?_; apply DV.h_aq)); first
      | with_reducible apply DV.aq_pick
      | with_reducible apply DV.aq_aa
      | with_reducible apply DV.aq_acons
      | with_reducible apply DV.aq_anil
      | with_reducible apply DV.aq_cons
      | with_reducible apply DV.aq_nil)
    | ((with_reducible (refine DV.Sh.out ?_; apply DV.h_pn)); first
      | with_reducible apply DV.pn_cons
      | with_reducible apply DV.pn_nil)
    | ((with_reducible (refine DV.Sh.out ?_; apply DV.h_nd)); first
      | with_reducible apply DV.nd_z
      | with_reducible apply DV.nd_s)
    | ((with_reducible refine DV.gd_wCs ?_); first
      | with_reducible refine DV.wCs_cons ?_
      | with_reducible refine DV.wCs_nil ?_)
    | ((with_reducible refine DV.gd_wB ?_); with_reducible refine DV.wB_mk ?_)
    | ((with_reducible refine DV.gd_wI ?_); first
      | with_reducible refine DV.wI_t ?_
      | with_reducible refine DV.wI_f ?_
      | with_reducible refine DV.wI_not ?_
      | with_reducible refine DV.wI_tt ?_
      | with_reducible refine DV.wI_ff ?_
      | with_reducible refine DV.wI_tf ?_
      | with_reducible refine DV.wI_ft ?_
      | ((with_reducible refine DV.wI_dpos ?_ ?_); (focus first | assumption | omega | exact of_decide_eq_true rfl))
      | ((with_reducible refine DV.wI_dneg ?_ ?_); (focus first | assumption | omega | exact of_decide_eq_false rfl)))
    | ((with_reducible refine DV.gd_wG ?_); first
      | with_reducible refine DV.wG_lnq ?_ ?_ ?_
      | with_reducible refine DV.wG_lnq1 ?_ ?_
      | ((with_reducible refine DV.wG_len ?_ ?_ ?_); exact rfl; exact rfl)
      | ((with_reducible refine DV.wG_eqt ?_ ?_); focus first | with_reducible exact DV.tyD_s | with_reducible exact DV.tyD_l | with_reducible exact DV.tyS_l | with_reducible exact DV.tyD_kl | with_reducible exact DV.tyS_k | with_reducible exact DV.tyS_t)
      | ((with_reducible refine DV.wG_le ?_ ?_); focus first | exact DV.le_lit rfl | exact Nat.le_of_ble_eq_true rfl)
      | with_reducible refine DV.wG_dK ?_
      | with_reducible refine DV.wG_self ?_ ?_)
    | ((with_reducible (refine DV.Sh.out ?_; apply DV.h_lnq)); first
      | with_reducible apply DV.lnq_cons
      | with_reducible apply DV.lnq_nil)
    | ((with_reducible refine DV.gd_wV ?_); first
      | with_reducible refine DV.wV_d ?_
      | with_reducible refine DV.wV_fr ?_
      | (((with_reducible (refine DV.Sh.out ?_; apply DV.h_wV_env))); (focus ((with_reducible (repeat (first | apply DV.nt_s | apply DV.nt_z | apply DV.nt_app | apply DV.nt_app0)); done))); (focus exact rfl)))
    | ((with_reducible refine DV.gd_wEnd ?_); first
      | with_reducible refine DV.wEnd_rt ?_
      | with_reducible refine DV.wEnd_nx ?_)
    | ((with_reducible refine DV.gd_wJ ?_); first
      | with_reducible refine DV.wJ_nx ?_
      | with_reducible refine DV.wJ_rt ?_
      | with_reducible refine DV.wJ_bk ?_
      | with_reducible refine DV.wJ_ct ?_)
    | ((with_reducible refine DV.gd_wP ?_); first
      | ((with_reducible apply DV.wP_ob); (focus ((with_reducible (repeat (first | apply DV.nt_s | apply DV.nt_z | apply DV.nt_app | apply DV.nt_app0)); done))); exact rfl)
      | ((with_reducible apply DV.wP_env); (focus ((with_reducible (repeat (first | apply DV.nt_s | apply DV.nt_z | apply DV.nt_app | apply DV.nt_app0)); done))); exact rfl))
    | ((with_reducible refine DV.gd_wU ?_); first
      | (with_reducible (refine DV.Sh.out ?_; apply DV.h_wU_ob))
      | (with_reducible (refine DV.Sh.out ?_; apply DV.h_wU_env)))
    | ((with_reducible refine DV.gd_wLO ?_); with_reducible refine DV.wLO_its ?_)
    | ((with_reducible refine DV.gd_wKO ?_); with_reducible refine DV.wKO_its ?_)
    | ((with_reducible refine DV.gd_wX ?_); with_reducible apply DV.wX_mk)
    | ((with_reducible (refine DV.Sh.out ?_; apply DV.h_wq)); first
      | with_reducible apply DV.wq_nil
      | with_reducible apply DV.wq_cons)
    | ((with_reducible (refine DV.Sh.out ?_; apply DV.h_tq)); first
      | with_reducible apply DV.tq_nm
      | with_reducible apply DV.tq_tp0
      | with_reducible apply DV.tq_tp)
    | ((with_reducible refine DV.gd_wSto ?_); (with_reducible (refine DV.Sh.out ?_; apply DV.h_wSto_lst)))
    | ((with_reducible refine DV.gd_wStoE ?_); (with_reducible (refine DV.Sh.out ?_; apply DV.h_wStoE_lst)))
    | ((with_reducible (refine DV.Sh.out ?_; apply DV.h_pu)); first
      | with_reducible apply DV.pu_nil
      | with_reducible apply DV.pu_cons
      | with_reducible apply DV.pu_app
      | with_reducible apply DV.pu_var)
    | ((with_reducible refine DV.gd_wPar ?_); with_reducible apply DV.wPar_mk)
    | ((with_reducible refine DV.gd_wPar3 ?_); with_reducible apply DV.wPar3_mk)
    | ((with_reducible (refine DV.Sh.out ?_; apply DV.h_lk)); first
      | with_reducible apply DV.lk_z
      | ((with_reducible apply DV.lk_s); focus decide +kernel))
    | ((with_reducible refine DV.gd_lkn ?_); first
      | with_reducible apply DV.lkn_nil
      | ((with_reducible refine DV.lkn_cons ?_ ?_); focus decide +kernel))
    | ((with_reducible refine DV.gd_wZ ?_); first
      | with_reducible refine DV.wZ_d ?_
      | with_reducible refine DV.wZ_frl ?_
      | with_reducible refine DV.wZ_fro ?_
      | with_reducible refine DV.wZ_env ?_)
    | ((with_reducible refine DV.gd_wQ ?_); first
      | ((with_reducible refine DV.wQ_own1 ?_ ?_); exact rfl)
      | with_reducible refine DV.wQ_blt ?_)
    | ((with_reducible refine DV.gd_wW ?_); first
      | ((with_reducible refine DV.wW_own1 ?_ ?_); exact rfl)
      | with_reducible refine DV.wW_blt ?_)
    | ((with_reducible (refine DV.Sh.out ?_; apply DV.h_ev)); first
      | with_reducible apply DV.ev_cons
      | with_reducible apply DV.ev_nil)
    | ((with_reducible (refine DV.Sh.out ?_; apply DV.h_rp)); first
      | with_reducible apply DV.rp_s
      | with_reducible apply DV.rp_z)
    | ((with_reducible (refine DV.Sh.out ?_; apply DV.h_evI)); with_reducible apply DV.evI_mk)
    | ((with_reducible (refine DV.Sh.out ?_; apply DV.h_exq)); first
      | with_reducible apply DV.exq_nil
      | with_reducible apply DV.exq_cons)
    | ((with_reducible (refine DV.Sh.out ?_; apply DV.h_hdq)); first
      | with_reducible apply DV.hdq_nil
      | with_reducible apply DV.hdq_cons)
    | ((with_reducible (refine DV.Sh.out ?_; apply DV.h_rdq)); first
      | with_reducible apply DV.rdq_nil
      | with_reducible apply DV.rdq_cons)
    | ((with_reducible (refine DV.Sh.out ?_; apply DV.h_rsq)); first
      | with_reducible apply DV.rsq_nil
      | with_reducible apply DV.rsq_cons)
    | ((with_reducible refine DV.gd_wNe ?_); first
      | with_reducible refine DV.wNe_d ?_
      | with_reducible refine DV.wNe_fr ?_)
    | ((with_reducible refine DV.gd_wTs ?_); with_reducible refine DV.wTs_nil ?_)
    | ((with_reducible refine DV.gd_wFx ?_); first
      | with_reducible refine DV.wFx_d ?_
      | with_reducible refine DV.wFx_frt ?_
      | with_reducible refine DV.wFx_frfl ?_)
    ))
namespace DV
open PySem PySem.Spec PyProof.Rows L2
section
variable {S T : List Sl} {Q : Rv → List Sl → Prop} {E : Exn → List Sl → Prop} {b : Sl}
theorem lt_size {a : Nat} (h : a < 1000) : a < sizeLine := Nat.lt_of_lt_of_le h (le_line (Nat.le_refl _))
/-- rows of a table -/
structure Rows (rs : List (List Int)) (k : Nat) : Prop where
  w : ∀ r ∈ rs, r.length = k
  v : ∀ r ∈ rs, ∀ i ∈ r, 0 ≤ i ∧ i < rs.length
end
end DV
namespace Lk01
open PySem PySem.Spec PyProof.Rows L2 DV
theorem m_draw : m__law_draw = drawM := rfl
theorem m_open : m__law_open = openM := rfl
theorem m_of : m__law_of = ofM := rfl
theorem m_same6 : m__law_same 6 = sameM2 ncl sub 6 := rfl
theorem same_wl {x y : D} {S : List Sl} {Q : Rv → List Sl → Prop} {E : Exn → List Sl → Prop} (e : x = y) (h : Pl 6 y) (q : Q (.d (.bl true)) S) : wm (m__law_same 6) [x, y] S Q E := by
  rw [m_same6]; exact same_w e h q
def exs (x y : D) : List Sl := [.exn 0 (excF "InvalidSymbols" ["given"] [x]), .exn 1 (excF "InvalidSymbol" ["given"] [x]), .exn 2 (excF "InvalidText" ["given"] [x]), .exn 3 (excF "InvalidPiece" ["at"] [x]), .exn 4 (excF "InvalidCost" ["given"] [x]), .exn 5 (excF "InvalidRow" ["at"] [x]), .exn 6 (excF "InvalidVerdict" ["given"] [x]), .exn 7 (excF "InvalidState" ["given"] [x]), .exn 8 (excF "InvalidNumber" ["given"] [x]), .exn 9 (excF "InvalidName" ["given"] [x]), .exn 10 (excF "InvalidReader" ["name"] [x]), .exn 11 (excF "InvalidKind" ["given"] [x]), .exn 12 (excF "InvalidPattern" ["at"] [x]), .exn 13 (excF "InvalidRule" ["at"] [x]), .exn 14 (excF "InvalidCommand" ["at"] [x]), .exn 15 (excF "InvalidLimit" ["given"] [x]), .exn 16 (excF "InvalidPage" ["line"] [x]), .exn 17 (excF "UnlikeSymbols" ["name"] [x]), .exn 18 (excF "UnlikeNames" [] []), .exn 19 (excF "NotFewer" [] []), .exn 20 (excF "Unfounded" [] []), .exn 21 (excF "NoText" [] []), .exn 22 (excF "Full" ["limit"] [x]), .exn 23 (excF "TooMany" ["subject", "most"] [x, y]), .exn 24 (excF "UnknownName" ["name"] [x]), .exn 25 (excF "NothingLeft" [] [])]
abbrev obs (n : Nat) : List D := (List.range' 1 n).map D.ob
def cds : List D := [.str "InvalidSymbols", .str "InvalidSymbol", .str "InvalidText", .str "InvalidPiece", .str "InvalidCost", .str "InvalidRow", .str "InvalidVerdict", .str "InvalidState", .str "InvalidNumber", .str "InvalidName", .str "InvalidReader", .str "InvalidKind", .str "InvalidPattern", .str "InvalidRule", .str "InvalidCommand", .str "InvalidLimit", .str "InvalidPage", .str "UnlikeSymbols", .str "UnlikeNames", .str "NotFewer", .str "Unfounded", .str "NoText", .str "Full", .str "TooMany", .str "UnknownName", .str "NothingLeft"]
def dues (x y : D) : List D := [.tup [x], .tup [x], .tup [x], .tup [x], .tup [x], .tup [x], .tup [x], .tup [x], .tup [x], .tup [x], .tup [x], .tup [x], .tup [x], .tup [x], .tup [x], .tup [x], .tup [x], .tup [x], .tup [], .tup [], .tup [], .tup [], .tup [x], .tup [x, y], .tup [x], .tup []]
abbrev fr (is : List Int) (x y : D) (s4 s5 s6 s7 s8 s9 s10 s11 : Sl) : List Sl := [.val (.kl (is.map .int)), .val (.ob 0), .val x, .val y, s4, s5, s6, s7, s8, s9, s10, s11]
theorem mk_0 (is : List Int) (x y : D) (b : Sl) : ((cSet false 4 (cLst (cConsD (cExc 0 1 0 (excF "InvalidSymbols" ["given"]) cb_InvalidSymbols___init___1M (cConsD (cName 2) cNilD) cNilD) (cConsD (cExc 1 0 1 (excF "InvalidSymbol" ["given"]) cb_InvalidSymbol___init___0_givenM cNilD (cConsD (cName 2) cNilD)) (cConsD (cExc 2 1 0 (excF "InvalidText" ["given"]) cb_InvalidText___init___1M (cConsD (cName 2) cNilD) cNilD) (cConsD (cExc 3 0 1 (excF "InvalidPiece" ["at"]) cb_InvalidPiece___init___0_atM cNilD (cConsD (cName 2) cNilD)) (cConsD (cExc 4 1 0 (excF "InvalidCost" ["given"]) cb_InvalidCost___init___1M (cConsD (cName 2) cNilD) cNilD) cNilD))))))) : M Fl) (fr is x y (.emp) .emp .emp .emp .emp .emp .emp .emp) [b] = .ok .nx (fr is x y (.val (.lst (obs 5))) .emp .emp .emp .emp .emp .emp .emp) (b :: (exs x y).take 5) false := by kernel_rfl
theorem mk_1 (is : List Int) (x y : D) (b : Sl) : ((cSet false 4 (cBin oAdd (cName 4) (cLst (cConsD (cExc 5 1 0 (excF "InvalidRow" ["at"]) cb_InvalidRow___init___1M (cConsD (cName 2) cNilD) cNilD) (cConsD (cExc 6 0 1 (excF "InvalidVerdict" ["given"]) cb_InvalidVerdict___init___0_givenM cNilD (cConsD (cName 2) cNilD)) (cConsD (cExc 7 1 0 (excF "InvalidState" ["given"]) cb_InvalidState___init___1M (cConsD (cName 2) cNilD) cNilD) (cConsD (cExc 8 0 1 (excF "InvalidNumber" ["given"]) cb_InvalidNumber___init___0_givenM cNilD (cConsD (cName 2) cNilD)) cNilD))))))) : M Fl) (fr is x y (.val (.lst (obs 5))) .emp .emp .emp .emp .emp .emp .emp) (b :: (exs x y).take 5) = .ok .nx (fr is x y (.val (.lst (obs 9))) .emp .emp .emp .emp .emp .emp .emp) (b :: (exs x y).take 9) false := by kernel_rfl
theorem mk_2 (is : List Int) (x y : D) (b : Sl) : ((cSet false 4 (cBin oAdd (cName 4) (cLst (cConsD (cExc 9 1 0 (excF "InvalidName" ["given"]) cb_InvalidName___init___1M (cConsD (cName 2) cNilD) cNilD) (cConsD (cExc 10 0 1 (excF "InvalidReader" ["name"]) cb_InvalidReader___init___0_nameM cNilD (cConsD (cName 2) cNilD)) (cConsD (cExc 11 1 0 (excF "InvalidKind" ["given"]) cb_InvalidKind___init___1M (cConsD (cName 2) cNilD) cNilD) (cConsD (cExc 12 0 1 (excF "InvalidPattern" ["at"]) cb_InvalidPattern___init___0_atM cNilD (cConsD (cName 2) cNilD)) (cConsD (cExc 13 1 0 (excF "InvalidRule" ["at"]) cb_InvalidRule___init___1M (cConsD (cName 2) cNilD) cNilD) cNilD)))))))) : M Fl) (fr is x y (.val (.lst (obs 9))) .emp .emp .emp .emp .emp .emp .emp) (b :: (exs x y).take 9) = .ok .nx (fr is x y (.val (.lst (obs 14))) .emp .emp .emp .emp .emp .emp .emp) (b :: (exs x y).take 14) false := by kernel_rfl
theorem mk_3 (is : List Int) (x y : D) (b : Sl) : ((cSet false 4 (cBin oAdd (cName 4) (cLst (cConsD (cExc 14 0 1 (excF "InvalidCommand" ["at"]) cb_InvalidCommand___init___0_atM cNilD (cConsD (cName 2) cNilD)) (cConsD (cExc 15 1 0 (excF "InvalidLimit" ["given"]) cb_InvalidLimit___init___1M (cConsD (cName 2) cNilD) cNilD) (cConsD (cExc 16 0 1 (excF "InvalidPage" ["line"]) cb_InvalidPage___init___0_lineM cNilD (cConsD (cName 2) cNilD)) (cConsD (cExc 17 0 1 (excF "UnlikeSymbols" ["name"]) cb_UnlikeSymbols___init___0_nameM cNilD (cConsD (cName 2) cNilD)) cNilD))))))) : M Fl) (fr is x y (.val (.lst (obs 14))) .emp .emp .emp .emp .emp .emp .emp) (b :: (exs x y).take 14) = .ok .nx (fr is x y (.val (.lst (obs 18))) .emp .emp .emp .emp .emp .emp .emp) (b :: (exs x y).take 18) false := by kernel_rfl
theorem mk_4 (is : List Int) (x y : D) (b : Sl) : ((cSet false 4 (cBin oAdd (cName 4) (cLst (cConsD (cExc 18 0 0 (excF "UnlikeNames" []) cb_UnlikeNames___init___0M cNilD cNilD) (cConsD (cExc 19 0 0 (excF "NotFewer" []) cb_NotFewer___init___0M cNilD cNilD) (cConsD (cExc 20 0 0 (excF "Unfounded" []) cb_Unfounded___init___0M cNilD cNilD) (cConsD (cExc 21 0 0 (excF "NoText" []) cb_NoText___init___0M cNilD cNilD) (cConsD (cExc 22 0 1 (excF "Full" ["limit"]) cb_Full___init___0_limitM cNilD (cConsD (cName 2) cNilD)) (cConsD (cExc 23 1 1 (excF "TooMany" ["subject", "most"]) cb_TooMany___init___1_mostM (cConsD (cName 2) cNilD) (cConsD (cName 3) cNilD)) cNilD))))))))) : M Fl) (fr is x y (.val (.lst (obs 18))) .emp .emp .emp .emp .emp .emp .emp) (b :: (exs x y).take 18) = .ok .nx (fr is x y (.val (.lst (obs 24))) .emp .emp .emp .emp .emp .emp .emp) (b :: (exs x y).take 24) false := by kernel_rfl
theorem mk_5 (is : List Int) (x y : D) (b : Sl) : ((cSet false 4 (cBin oAdd (cName 4) (cLst (cConsD (cExc 24 0 1 (excF "UnknownName" ["name"]) cb_UnknownName___init___0_nameM cNilD (cConsD (cName 2) cNilD)) (cConsD (cExc 25 0 0 (excF "NothingLeft" []) cb_NothingLeft___init___0M cNilD cNilD) cNilD))))) : M Fl) (fr is x y (.val (.lst (obs 24))) .emp .emp .emp .emp .emp .emp .emp) (b :: (exs x y).take 24) = .ok .nx (fr is x y (.val (.lst (obs 26))) .emp .emp .emp .emp .emp .emp .emp) (b :: (exs x y).take 26) false := by kernel_rfl
theorem cd_0 (is : List Int) (x y : D) (b : Sl) : ((cSet false 5 (cLst (cConsD (cC (.str "InvalidSymbols")) (cConsD (cC (.str "InvalidSymbol")) (cConsD (cC (.str "InvalidText")) (cConsD (cC (.str "InvalidPiece")) (cConsD (cC (.str "InvalidCost")) (cConsD (cC (.str "InvalidRow")) cNilD)))))))) : M Fl) (fr is x y (.val (.lst (obs 26))) (.emp) .emp .emp .emp .emp .emp .emp) (b :: (exs x y).take 26) = .ok .nx (fr is x y (.val (.lst (obs 26))) (.val (.lst (cds.take 6))) .emp .emp .emp .emp .emp .emp) (b :: (exs x y).take 26) false := by kernel_rfl
theorem cd_1 (is : List Int) (x y : D) (b : Sl) : ((cSet false 5 (cBin oAdd (cName 5) (cLst (cConsD (cC (.str "InvalidVerdict")) (cConsD (cC (.str "InvalidState")) (cConsD (cC (.str "InvalidNumber")) (cConsD (cC (.str "InvalidName")) (cConsD (cC (.str "InvalidReader")) (cConsD (cC (.str "InvalidKind")) cNilD))))))))) : M Fl) (fr is x y (.val (.lst (obs 26))) (.val (.lst (cds.take 6))) .emp .emp .emp .emp .emp .emp) (b :: (exs x y).take 26) = .ok .nx (fr is x y (.val (.lst (obs 26))) (.val (.lst (cds.take 12))) .emp .emp .emp .emp .emp .emp) (b :: (exs x y).take 26) false := by kernel_rfl
theorem cd_2 (is : List Int) (x y : D) (b : Sl) : ((cSet false 5 (cBin oAdd (cName 5) (cLst (cConsD (cC (.str "InvalidPattern")) (cConsD (cC (.str "InvalidRule")) (cConsD (cC (.str "InvalidCommand")) (cConsD (cC (.str "InvalidLimit")) (cConsD (cC (.str "InvalidPage")) (cConsD (cC (.str "UnlikeSymbols")) cNilD))))))))) : M Fl) (fr is x y (.val (.lst (obs 26))) (.val (.lst (cds.take 12))) .emp .emp .emp .emp .emp .emp) (b :: (exs x y).take 26) = .ok .nx (fr is x y (.val (.lst (obs 26))) (.val (.lst (cds.take 18))) .emp .emp .emp .emp .emp .emp) (b :: (exs x y).take 26) false := by kernel_rfl
theorem cd_3 (is : List Int) (x y : D) (b : Sl) : ((cSet false 5 (cBin oAdd (cName 5) (cLst (cConsD (cC (.str "UnlikeNames")) (cConsD (cC (.str "NotFewer")) (cConsD (cC (.str "Unfounded")) (cConsD (cC (.str "NoText")) (cConsD (cC (.str "Full")) (cConsD (cC (.str "TooMany")) (cConsD (cC (.str "UnknownName")) (cConsD (cC (.str "NothingLeft")) cNilD))))))))))) : M Fl) (fr is x y (.val (.lst (obs 26))) (.val (.lst (cds.take 18))) .emp .emp .emp .emp .emp .emp) (b :: (exs x y).take 26) = .ok .nx (fr is x y (.val (.lst (obs 26))) (.val (.lst (cds.take 26))) .emp .emp .emp .emp .emp .emp) (b :: (exs x y).take 26) false := by kernel_rfl
theorem du_ (is : List Int) (x y : D) (b : Sl) : ((cSet false 6 (cLc (cRng1 (cConsD (cC (.int 26)) cNilD)) [7] (.nm 7) cYes (cIf (cTst (cBin (oIn false) (cName 7) (cTup (cConsD (cC (.int 18)) (cConsD (cC (.int 19)) (cConsD (cC (.int 20)) (cConsD (cC (.int 21)) (cConsD (cC (.int 25)) cNilD)))))))) (cTup cNilD) (cIf (cTst (cBin (oEq false) (cName 7) (cC (.int 23)))) (cTup (cConsD (cName 2) (cConsD (cName 3) cNilD))) (cTup (cConsD (cName 2) cNilD)))))) : M Fl) (fr is x y (.val (.lst (obs 26))) (.val (.lst (cds.take 26))) .emp .emp .emp .emp .emp .emp) (b :: (exs x y).take 26) = .ok .nx (fr is x y (.val (.lst (obs 26))) (.val (.lst (cds.take 26))) (.val (.lst (dues x y))) .emp .emp .emp .emp .emp) (b :: (exs x y).take 26) true := by kernel_rfl
theorem cA_ (is : List Int) (x y : D) (b : Sl) : ((cLcO idF (cItsO (cName 4)) [10] (.nm 10) cYes (cXf xfs "code" (cName 10))) : M Rv) (fr is x y (.val (.lst (obs 26))) (.val (.lst (cds.take 26))) (.val (.lst (dues x y))) .emp .emp .emp .emp .emp) (b :: (exs x y).take 26) = .ok (.fr (.lst cds)) (fr is x y (.val (.lst (obs 26))) (.val (.lst (cds.take 26))) (.val (.lst (dues x y))) .emp .emp .emp .emp .emp) (b :: (exs x y).take 26) true := by kernel_rfl
theorem cB_ (is : List Int) (x y : D) (b : Sl) : ((cLcO idF (cItsO (cName 4)) [10] (.nm 10) cYes (cCall m__law_field 1 0 cb__law_field_1M (cConsD (cName 10) cNilD) cNilD)) : M Rv) (fr is x y (.val (.lst (obs 26))) (.val (.lst (cds.take 26))) (.val (.lst (dues x y))) .emp .emp .emp .emp .emp) (b :: (exs x y).take 26) = .ok (.fr (.lst (dues x y))) (fr is x y (.val (.lst (obs 26))) (.val (.lst (cds.take 26))) (.val (.lst (dues x y))) .emp .emp .emp .emp .emp) (b :: (exs x y).take 26) true := by kernel_rfl
theorem lp_ (is : List Int) (x y : D) (b : Sl) : ((cFor (cRng1 (cConsD (cC (.int 26)) cNilD)) (.nm 7) q_law_5) : M Fl) (fr is x y (.val (.lst (obs 26))) (.val (.lst (cds.take 26))) (.val (.lst (dues x y))) .emp .emp .emp .emp .emp) (b :: (exs x y).take 26) = .ok .nx (fr is x y (.val (.lst (obs 26))) (.val (.lst (cds.take 26))) (.val (.lst (dues x y))) (.val (.int 25)) (.val (.lst [.bl false, .bl false, .bl false, .bl true, .bl true])) (.val (.lst [.bl false, .bl false, .bl false, .bl true, .bl true])) .emp .emp) (b :: (exs x y).take 26) false := by kernel_rfl
theorem rt_ (is : List Int) (x y : D) (b : Sl) : ((cRet (cAnd (cIsX isx (cConsD (cBin oGet (cName 4) (cC (.int 0))) (cConsD (cC (.cl 26)) cNilD))) (cAnd (cIsX isx (cConsD (cBin oGet (cName 4) (cC (.int 24))) (cConsD (cC (.cl 27)) cNilD))) (cNot (cIsX isx (cConsD (cBin oGet (cName 4) (cC (.int 25))) (cConsD (cC (.cl 27)) cNilD))))))) : M Fl) (fr is x y (.val (.lst (obs 26))) (.val (.lst (cds.take 26))) (.val (.lst (dues x y))) (.val (.int 25)) (.val (.lst [.bl false, .bl false, .bl false, .bl true, .bl true])) (.val (.lst [.bl false, .bl false, .bl false, .bl true, .bl true])) .emp .emp) (b :: (exs x y).take 26) = .ok (.rt (.d (.bl true))) (fr is x y (.val (.lst (obs 26))) (.val (.lst (cds.take 26))) (.val (.lst (dues x y))) (.val (.int 25)) (.val (.lst [.bl false, .bl false, .bl false, .bl true, .bl true])) (.val (.lst [.bl false, .bl false, .bl false, .bl true, .bl true])) .emp .emp) (b :: (exs x y).take 26) false := by kernel_rfl
@[irreducible] def restL : M Fl := (cSeq (cSet false 4 (cLst (cConsD (cExc 0 1 0 (excF "InvalidSymbols" ["given"]) cb_InvalidSymbols___init___1M (cConsD (cName 2) cNilD) cNilD) (cConsD (cExc 1 0 1 (excF "InvalidSymbol" ["given"]) cb_InvalidSymbol___init___0_givenM cNilD (cConsD (cName 2) cNilD)) (cConsD (cExc 2 1 0 (excF "InvalidText" ["given"]) cb_InvalidText___init___1M (cConsD (cName 2) cNilD) cNilD) (cConsD (cExc 3 0 1 (excF "InvalidPiece" ["at"]) cb_InvalidPiece___init___0_atM cNilD (cConsD (cName 2) cNilD)) (cConsD (cExc 4 1 0 (excF "InvalidCost" ["given"]) cb_InvalidCost___init___1M (cConsD (cName 2) cNilD) cNilD) cNilD))))))) (cSeq (cSet false 4 (cBin oAdd (cName 4) (cLst (cConsD (cExc 5 1 0 (excF "InvalidRow" ["at"]) cb_InvalidRow___init___1M (cConsD (cName 2) cNilD) cNilD) (cConsD (cExc 6 0 1 (excF "InvalidVerdict" ["given"]) cb_InvalidVerdict___init___0_givenM cNilD (cConsD (cName 2) cNilD)) (cConsD (cExc 7 1 0 (excF "InvalidState" ["given"]) cb_InvalidState___init___1M (cConsD (cName 2) cNilD) cNilD) (cConsD (cExc 8 0 1 (excF "InvalidNumber" ["given"]) cb_InvalidNumber___init___0_givenM cNilD (cConsD (cName 2) cNilD)) cNilD))))))) (cSeq (cSet false 4 (cBin oAdd (cName 4) (cLst (cConsD (cExc 9 1 0 (excF "InvalidName" ["given"]) cb_InvalidName___init___1M (cConsD (cName 2) cNilD) cNilD) (cConsD (cExc 10 0 1 (excF "InvalidReader" ["name"]) cb_InvalidReader___init___0_nameM cNilD (cConsD (cName 2) cNilD)) (cConsD (cExc 11 1 0 (excF "InvalidKind" ["given"]) cb_InvalidKind___init___1M (cConsD (cName 2) cNilD) cNilD) (cConsD (cExc 12 0 1 (excF "InvalidPattern" ["at"]) cb_InvalidPattern___init___0_atM cNilD (cConsD (cName 2) cNilD)) (cConsD (cExc 13 1 0 (excF "InvalidRule" ["at"]) cb_InvalidRule___init___1M (cConsD (cName 2) cNilD) cNilD) cNilD)))))))) (cSeq (cSet false 4 (cBin oAdd (cName 4) (cLst (cConsD (cExc 14 0 1 (excF "InvalidCommand" ["at"]) cb_InvalidCommand___init___0_atM cNilD (cConsD (cName 2) cNilD)) (cConsD (cExc 15 1 0 (excF "InvalidLimit" ["given"]) cb_InvalidLimit___init___1M (cConsD (cName 2) cNilD) cNilD) (cConsD (cExc 16 0 1 (excF "InvalidPage" ["line"]) cb_InvalidPage___init___0_lineM cNilD (cConsD (cName 2) cNilD)) (cConsD (cExc 17 0 1 (excF "UnlikeSymbols" ["name"]) cb_UnlikeSymbols___init___0_nameM cNilD (cConsD (cName 2) cNilD)) cNilD))))))) (cSeq (cSet false 4 (cBin oAdd (cName 4) (cLst (cConsD (cExc 18 0 0 (excF "UnlikeNames" []) cb_UnlikeNames___init___0M cNilD cNilD) (cConsD (cExc 19 0 0 (excF "NotFewer" []) cb_NotFewer___init___0M cNilD cNilD) (cConsD (cExc 20 0 0 (excF "Unfounded" []) cb_Unfounded___init___0M cNilD cNilD) (cConsD (cExc 21 0 0 (excF "NoText" []) cb_NoText___init___0M cNilD cNilD) (cConsD (cExc 22 0 1 (excF "Full" ["limit"]) cb_Full___init___0_limitM cNilD (cConsD (cName 2) cNilD)) (cConsD (cExc 23 1 1 (excF "TooMany" ["subject", "most"]) cb_TooMany___init___1_mostM (cConsD (cName 2) cNilD) (cConsD (cName 3) cNilD)) cNilD))))))))) (cSeq (cSet false 4 (cBin oAdd (cName 4) (cLst (cConsD (cExc 24 0 1 (excF "UnknownName" ["name"]) cb_UnknownName___init___0_nameM cNilD (cConsD (cName 2) cNilD)) (cConsD (cExc 25 0 0 (excF "NothingLeft" []) cb_NothingLeft___init___0M cNilD cNilD) cNilD))))) (cSeq (cSet false 5 (cLst (cConsD (cC (.str "InvalidSymbols")) (cConsD (cC (.str "InvalidSymbol")) (cConsD (cC (.str "InvalidText")) (cConsD (cC (.str "InvalidPiece")) (cConsD (cC (.str "InvalidCost")) (cConsD (cC (.str "InvalidRow")) cNilD)))))))) (cSeq (cSet false 5 (cBin oAdd (cName 5) (cLst (cConsD (cC (.str "InvalidVerdict")) (cConsD (cC (.str "InvalidState")) (cConsD (cC (.str "InvalidNumber")) (cConsD (cC (.str "InvalidName")) (cConsD (cC (.str "InvalidReader")) (cConsD (cC (.str "InvalidKind")) cNilD))))))))) (cSeq (cSet false 5 (cBin oAdd (cName 5) (cLst (cConsD (cC (.str "InvalidPattern")) (cConsD (cC (.str "InvalidRule")) (cConsD (cC (.str "InvalidCommand")) (cConsD (cC (.str "InvalidLimit")) (cConsD (cC (.str "InvalidPage")) (cConsD (cC (.str "UnlikeSymbols")) cNilD))))))))) (cSeq (cSet false 5 (cBin oAdd (cName 5) (cLst (cConsD (cC (.str "UnlikeNames")) (cConsD (cC (.str "NotFewer")) (cConsD (cC (.str "Unfounded")) (cConsD (cC (.str "NoText")) (cConsD (cC (.str "Full")) (cConsD (cC (.str "TooMany")) (cConsD (cC (.str "UnknownName")) (cConsD (cC (.str "NothingLeft")) cNilD))))))))))) (cSeq (cSet false 6 (cLc (cRng1 (cConsD (cC (.int 26)) cNilD)) [7] (.nm 7) cYes (cIf (cTst (cBin (oIn false) (cName 7) (cTup (cConsD (cC (.int 18)) (cConsD (cC (.int 19)) (cConsD (cC (.int 20)) (cConsD (cC (.int 21)) (cConsD (cC (.int 25)) cNilD)))))))) (cTup cNilD) (cIf (cTst (cBin (oEq false) (cName 7) (cC (.int 23)))) (cTup (cConsD (cName 2) (cConsD (cName 3) cNilD))) (cTup (cConsD (cName 2) cNilD)))))) (cSeq (cIfS (cOrB (cNotB (cTru (cCall (m__law_same 6) 2 0 cb__law_same_2M (cConsD (cLcO idF (cItsO (cName 4)) [10] (.nm 10) cYes (cXf xfs "code" (cName 10))) (cConsD (cName 5) cNilD)) cNilD))) (cNotB (cTru (cCall (m__law_same 6) 2 0 cb__law_same_2M (cConsD (cLcO idF (cItsO (cName 4)) [10] (.nm 10) cYes (cCall m__law_field 1 0 cb__law_field_1M (cConsD (cName 10) cNilD) cNilD)) (cConsD (cName 6) cNilD)) cNilD)))) (cRet (cC (.bl false))) cNx) (cSeq (cFor (cRng1 (cConsD (cC (.int 26)) cNilD)) (.nm 7) q_law_5) (cRet (cAnd (cIsX isx (cConsD (cBin oGet (cName 4) (cC (.int 0))) (cConsD (cC (.cl 26)) cNilD))) (cAnd (cIsX isx (cConsD (cBin oGet (cName 4) (cC (.int 24))) (cConsD (cC (.cl 27)) cNilD))) (cNot (cIsX isx (cConsD (cBin oGet (cName 4) (cC (.int 25))) (cConsD (cC (.cl 27)) cNilD))))))))))))))))))))
theorem law_split : c_law = (cSeq (cSto 1 (cCall m__law_open 1 0 cb__law_open_1M (cConsD (cName 0) cNilD) cNilD)) (cSeq (cSet false 2 (cCall m__law_of 2 0 cb__law_of_2M (cConsD (cName 1) (cConsD (cLst (cConsD (cC .non) (cConsD (cC (.str "a")) (cConsD (cC (.int 3)) (cConsD (cTup (cConsD (cC (.str "b")) (cConsD (cC (.int 1)) cNilD))) (cConsD (cC (.bl true)) (cConsD (cLst (cConsD (cC (.int 1)) (cConsD (cC (.str "c")) cNilD))) (cConsD (cCall m__law_draw 2 0 cb__law_draw_2M (cConsD (cName 1) (cConsD (cBin oPow (cC (.int 10)) (cC (.int 18))) cNilD)) cNilD) cNilD)))))))) cNilD)) cNilD)) (cSeq (cSet false 3 (cCall m__law_of 2 0 cb__law_of_2M (cConsD (cName 1) (cConsD (cLst (cConsD (cNeg (cC (.int 1))) (cConsD (cC (.int 0)) (cConsD (cCall m__law_draw 2 0 cb__law_draw_2M (cConsD (cName 1) (cConsD (cC (.int 400)) cNilD)) cNilD) (cConsD (cC .non) (cConsD (cC (.str "a")) cNilD)))))) cNilD)) cNilD)) restL))) := by
  unfold c_law restL
  rfl
section
variable {ρ S ρ' S' : List Sl} {QF : Fl → List Sl → List Sl → Prop} {EX : XQ} {a B : M Fl} {t : Bool} {is : List Int} {x y : D} {b : Sl}
theorem wp_seq_eq (e : a ρ S = .ok .nx ρ' S' t) (h : wp B ρ' S' QF EX) : wp (cSeq a B) ρ S QF EX := wp_seq (wp_of_eq e h)
theorem pl_dues (hx : Pl 4 x) (hy : Pl 4 y) : Pl 6 (.lst (dues x y)) := by
  have h0 : Pl 5 (.tup []) := pl_tup (Nat.zero_le _) pl_nil
  have h1 : Pl 5 (.tup [x]) := pl_tup (show 1 ≤ 1000 by decide) (pl_cons hx pl_nil)
  have h2 : Pl 5 (.tup [x, y]) := pl_tup (show 2 ≤ 1000 by decide) (pl_cons hx (pl_cons hy pl_nil))
  unfold dues
  refine pl_lst (show 26 ≤ 1000 by decide) ?_
  repeat (first | exact pl_nil | refine pl_cons h1 ?_ | refine pl_cons h0 ?_ | refine pl_cons h2 ?_)
theorem tk_ : D.lst cds = D.lst (cds.take 26) := by kernel_rfl
theorem pl_cds : Pl 6 (.lst (cds.take 26)) := by
  refine pl_lst (show 26 ≤ 1000 by decide) fun d hd => ?_
  have hd : d ∈ cds := hd
  unfold cds at hd
  simp only [List.mem_cons, List.not_mem_nil, or_false] at hd
  repeat (first | (rcases hd with rfl | hd; exact pl_str) | (subst hd; exact pl_str))
theorem rest_w (hx : Pl 4 x) (hy : Pl 4 y) (h : ∀ ρ S, QF (.rt (.d (.bl true))) ρ S) : wp restL (fr is x y .emp .emp .emp .emp .emp .emp .emp .emp) [b] QF EX := by iterate
  unfold restL
  with_reducible refine wp_seq_eq (mk_0 is x y b) ?_
  with_reducible refine wp_seq_eq (mk_1 is x y b) ?_
  with_reducible refine wp_seq_eq (mk_2 is x y b) ?_
  with_reducible refine wp_seq_eq (mk_3 is x y b) ?_
  with_reducible refine wp_seq_eq (mk_4 is x y b) ?_
  with_reducible refine wp_seq_eq (mk_5 is x y b) ?_
  with_reducible refine wp_seq_eq (cd_0 is x y b) ?_
  with_reducible refine wp_seq_eq (cd_1 is x y b) ?_
  with_reducible refine wp_seq_eq (cd_2 is x y b) ?_
  with_reducible refine wp_seq_eq (cd_3 is x y b) ?_
  with_reducible refine wp_seq_eq (du_ is x y b) ?_
  with_reducible refine wp_seq ?_
  have hA := cA_ is x y b
  have hB := cB_ is x y b
  have hL := lp_ is x y b
  have hR := rt_ is x y b
  revert hA hB hL hR
  generalize ((cLcO idF (cItsO (cName 4)) [10] (.nm 10) cYes (cXf xfs "code" (cName 10))) : M Rv) = A
  generalize ((cLcO idF (cItsO (cName 4)) [10] (.nm 10) cYes (cCall m__law_field 1 0 cb__law_field_1M (cConsD (cName 10) cNilD) cNilD)) : M Rv) = B
  generalize ((cFor (cRng1 (cConsD (cC (.int 26)) cNilD)) (.nm 7) q_law_5) : M Fl) = L
  generalize ((cRet (cAnd (cIsX isx (cConsD (cBin oGet (cName 4) (cC (.int 0))) (cConsD (cC (.cl 26)) cNilD))) (cAnd (cIsX isx (cConsD (cBin oGet (cName 4) (cC (.int 24))) (cConsD (cC (.cl 27)) cNilD))) (cNot (cIsX isx (cConsD (cBin oGet (cName 4) (cC (.int 25))) (cConsD (cC (.cl 27)) cNilD))))))) : M Fl) = R
  intro hA hB hL hR
  simp_arith
  with_reducible refine wp_of_eq hA ?_
  simp_arith
  with_reducible refine wA_mk (same_wl tk_ pl_cds ?_)
  simp_arith
  with_reducible refine wp_of_eq hB ?_
  simp_arith
  with_reducible refine wA_mk (same_wl (Eq.refl _) (pl_dues hx hy) ?_)
  simp_arith
  with_reducible refine wp_of_eq hL ?_
  simp_arith
  with_reducible exact wp_of_eq hR (h _ _)
theorem ev12 (is : List Int) : ev 12 [D.kl (is.map .int)] [.val (.kl (is.map .int)), .emp, .emp, .emp, .emp, .emp, .emp, .emp, .emp, .emp, .emp, .emp] := rfl
theorem law_w (is : List Int) : wm m_law [.kl (is.map .int)] [] (fun r _ => r = .d (.bl true)) (fun _ _ => False) := by iterate
  have e12 := ev12 is
  unfold m_law
  have key := @rest_w
  revert key
  rw [law_split]
  generalize restL = B
  intro key
  refine wm_def e12 ?_
  simp_arith
  rw [m_open]
  refine open_w fun b hb => ?_
  simp_arith
  refine wO_mk pow18 ?_
  simp_arith
  rw [m_draw]
  refine draw_w hb (by omega) (by omega) fun v b1 hb1 v0 v1 => ?_
  simp_arith
  rw [m_of]
  refine of_lst_w hb1 (show 0 < 7 by decide) (show 7 < 1000 by decide) fun x b2 hb2 hd => ?_
  have hx : Pl 4 x := by
    simp only [List.mem_cons, List.not_mem_nil, or_false] at hd
    rcases hd with rfl | rfl | rfl | rfl | rfl | rfl | rfl
    · exact pl_non
    · exact pl_str
    · exact pl_int
    · exact pl_tup (show 2 ≤ 1000 by decide) (pl_cons pl_str (pl_cons pl_int pl_nil))
    · exact pl_bl
    · exact pl_lst (show 2 ≤ 1000 by decide) (pl_cons pl_int (pl_cons pl_str pl_nil))
    · exact pl_int
  simp_arith
  refine draw_w hb2 (by omega) (by omega) fun v b3 hb3 v0 v1 => ?_
  simp_arith
  refine of_lst_w hb3 (show 0 < 5 by decide) (show 5 < 1000 by decide) fun y b4 hb4 hd => ?_
  have hy : Pl 4 y := by
    simp only [List.mem_cons, List.not_mem_nil, or_false] at hd
    rcases hd with rfl | rfl | rfl | rfl | rfl
    · exact pl_int
    · exact pl_int
    · exact pl_int
    · exact pl_non
    · exact pl_str
  simp_arith
  exact key hx hy fun _ _ => rfl
end
theorem plain : ∀ ns : List Int, ns.length ≤ 63 → ∃ ρ S t, m_law [.kl (ns.map .int)] [] = .ok (.d (.bl true)) ρ S t := by
  intro ns _
  have h := law_w ns
  unfold wm at h
  cases q : m_law [.kl (ns.map .int)] [] with
  | ok r ρ S t =>
    rw [q] at h
    have h : r = .d (.bl true) := h
    subst h
    exact ⟨ρ, S, t, rfl⟩
  | ex x ρ S => rw [q] at h; exact h.elim
  | bad => rw [q] at h; exact h.elim
end Lk01
end
namespace Lk01
open PySem PySem.Spec PyProof.Rows L2 DV
theorem facts {P : Program} {wd : World} {K : PySem.W.Frag} {h : Heap} {mg : Str → Option Value} (X : K.In h) (G : h.Ns mainGlobals mg) (c : SaysY chk fnl K) :
    ∃ (fa : Addr) (fd : FuncData), mg "law" = some (.ref fa) ∧ (∀ (s : Shared) (u : Value), BindsTo s fd ⟨[u], []⟩ [("_law_script", u)]) ∧ ∀ base : Heap,  FnOk P wd K mg base (L2.CX P wd) 7 fa fd ["_law_script"] (spM (Gk K []) 1 m_law) := by
  have T := tx_of X G c.chk
  obtain ⟨fd, F⟩ := c.fn 32 (d := dd_law) rfl
  refine ⟨He.ga K "law", fd, T.g_law, fun s u => (FunD.bindsA (ps := ["_law_script"]) F fun _ _ _ _ _ _ us hl => match us, hl with | [_], _ => rfl) s [u] rfl, fun base => ?_⟩
  obtain ⟨fd2, F2, G2⟩ := all_ok (P := P) (wd := wd) X G c base
  obtain rfl := funD_same F F2
  exact G2
end Lk01
open PySem PySem.W PySem.Calls PyProof.Rows
theorem PySem.Challenge.cw_rightfrom_k01_errors_by_themselves_holds : PySem.Challenge.rw_rightfrom_k01_errors_by_themselves.Holds := by
  w_on; o_law
  refine HandSHeadRun.head_any (r := OpenLaw.row PySem.Challenge.rw_rightfrom_k01_errors_by_themselves) (q := view (OpenLaw.row PySem.Challenge.rw_rightfrom_k01_errors_by_themselves).prog [36]) (H := Lk01.hk) (ob := Lk01.ob) (M := 20000) (loose := Lk01.nms) (d := HandSHeadRun.topDef (OpenLaw.row PySem.Challenge.rw_rightfrom_k01_errors_by_themselves).prog 36) (kwd := []) Lk01.ob_eq
    (by kernel_rfl) (fun s => by kernel_rfl) Lk01.run (by kernel_rfl) (by kernel_rfl) (by kernel_rfl) (by rfl) (by first | assumption | decide +kernel) (by decide +kernel) ⟨rfl, rfl, rfl, rfl, rfl, by decide +kernel⟩ ?hw ?hc
  case hw => w_witness2
  case hc =>
    refine DV.walk_dvY (law := PySem.Challenge.rw_rightfrom_k01_errors_by_themselves) (k := 7) (x := "_law_script") (Γ := fun K => Lk01.Gk K []) (m := Lk01.m_law) (fun _ => rfl) rfl (by kernel_rfl) ⟨rfl, by decide, by decide⟩ ?F Lk01.plain
    intro w K mg h KX G c
    have e : (HandSHeadRun.topDef (OpenLaw.row PySem.Challenge.rw_rightfrom_k01_errors_by_themselves).prog 36).name = ("law" : PySem.Str) := by kernel_rfl
    rw [e]
    exact Lk01.facts KX G c
