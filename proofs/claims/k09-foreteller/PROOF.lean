import PyProof.Rows.All
import Wide.All
import OpenK.AllK
import Wide.FinOn
import HandS.ForMost
import HandS.ForExc
import HandS.Evl
import HandS.Deep
import HandS.Wide
import HandS.IsInst
import HandS.Style
import PyProof.MaxThree
import HandS.Conv
import HandS.EndBits
import KE.SortData
import KE.KeyNested
import KE.KDictPairs
import HandS.More
import HandS.Iter
import KE.KUnpack
import KE.LtSeq
import KE.LtData
import KE.SortCalls
import KE.KSortTup
import KE.KSortAsk
import HandS.TupAny
import HandS.TupLe
import HandS.ExcCtx
import HandS.ExcIs
import HandS.HotCalls
import PySem.Challenge.RW_fewlessons_k09_whole_foreteller
set_option Elab.async false
set_option linter.all false
set_option maxRecDepth 100000
set_option maxHeartbeats 4000000
set_option autoImplicit false
namespace Zk
open PySem L2

/-! ### heaps that grow -/
def Ex (H H' : Hp) : Prop := ∀ a o, H a = some o → H' a = some o
theorem Ex.rf (H : Hp) : Ex H H := fun _ _ h => h
theorem Ex.tr {H H1 H2 : Hp} (a : Ex H H1) (b : Ex H1 H2) : Ex H H2 := fun x o h => b x o (a x o h)
theorem Ex.nw {H : Hp} {p : Addr} {o : HO} (h : H p = none) : Ex H (upd H p o) := fun a u e => by
  rw [upd_ne (ne_of_none e h)]
  exact e
theorem Ex.no {H H' : Hp} (e : Ex H H') {p : Addr} (h : H' p = none) : H p = none := by
  cases q : H p with
  | none => rfl
  | some o => rw [e p o q] at h; cases h
theorem Ex.rd {H H' : Hp} {a : Addr} {u : HO} (e : Ex H H') (h : Rd H a u) : Rd H' a u := by
  rcases h with h | ⟨o, h⟩
  · exact .inl (e a _ h)
  · exact .inr ⟨o, e a _ h⟩
theorem Ex.sl {K : PySem.W.Frag} {H H' : Hp} {a : Addr} {xs : List V} (e : Ex H H') (h : SqL K H a xs) : SqL K H' a xs := by
  rcases h with h | h
  · exact .inl (e.rd h)
  · exact .inr h
theorem Ex.st {K : PySem.W.Frag} {H H' : Hp} {a : Addr} {xs : List V} (e : Ex H H') (h : SqT K H a xs) : SqT K H' a xs := by
  rcases h with h | h
  · exact .inl (e.rd h)
  · exact .inr h
/-! ### data in a heap: lists and tuples tracked, or locked -/
mutual
inductive Dq (H : Hp) : V → PyData → Prop
  | non : Dq H .non .none
  | bl (b : Bool) : Dq H (.bl b) (.bool b)
  | int (i : Int) : Dq H (.int i) (.int i)
  | str (x : Str) : Dq H (.str x) (.str x)
  | lst {a : Addr} {xs : List V} {ds : List PyData} : Rd H a (.lst xs) → xs.length ≤ sizeLine → DqAll H xs ds → Dq H (.ref a) (.list ds)
  | tup {a : Addr} {xs : List V} {ds : List PyData} : Rd H a (.tup xs) → xs.length ≤ sizeLine → DqAll H xs ds → Dq H (.ref a) (.tuple ds)
  /-- an object of one field; the written dict is its name: the class's place, the field's name, what the field holds -/
  | obj {a C dx : Addr} {f : Str} {v : V} {d : PyData} : H a = some (.ins C dx [(f, v)]) → H dx = some (.own a) → Dq H v d → Dq H (.ref a) (.dict [(.int (C : Int), .str f), (.none, d)])
inductive DqAll (H : Hp) : List V → List PyData → Prop
  | nil : DqAll H [] []
  | cons {v : V} {vs : List V} {d : PyData} {ds : List PyData} : Dq H v d → DqAll H vs ds → DqAll H (v :: vs) (d :: ds)
end
section
variable {K : PySem.W.Frag} {H : Hp}
mutual
theorem dq_dp : ∀ (d : PyData) (v : V), d.canLay0 = true → Dq H v d → Dp K H v d
  | .none, _, _, h => by cases h; exact .non
  | .bool b, _, _, h => by cases h; exact .bl _
  | .int i, _, _, h => by cases h; exact .int _
  | .str x, _, _, h => by cases h; exact .str _
  | .list ds, _, hl, h => by
    cases h with
    | lst hs hz ha => exact .lst (.inl hs) (dqa_dp ds _ (by rw [PyData.canLay0] at hl; exact hl) ha)
  | .tuple ds, _, hl, h => by
    cases h with
    | tup hs hz ha => exact .tup (.inl hs) (dqa_dp ds _ (by rw [PyData.canLay0] at hl; exact hl) ha)
  | .dict _, _, hl, h => by
    rw [PyData.canLay0] at hl
    cases hl
theorem dqa_dp : ∀ (ds : List PyData) (vs : List V), PyData.canLayAll0 ds = true → DqAll H vs ds → DpAll K H vs ds
  | [], _, _, h => by cases h; exact .nil
  | d :: ds, _, hl, h => by
    rw [PyData.canLayAll0, Bool.and_eq_true] at hl
    cases h with
    | cons h1 h2 => exact .cons (dq_dp d _ hl.1 h1) (dqa_dp ds _ hl.2 h2)
end
end
section
variable {H H' : Hp}
mutual
theorem dq_mo' (e : Ex H H') : ∀ {d : PyData} {v : V}, Dq H v d → Dq H' v d
  | _, _, .non => .non
  | _, _, .bl b => .bl b
  | _, _, .int i => .int i
  | _, _, .str x => .str x
  | _, _, .lst hs hz ha => .lst (e.rd hs) hz (dqa_mo' e ha)
  | _, _, .tup hs hz ha => .tup (e.rd hs) hz (dqa_mo' e ha)
  | _, _, .obj h1 h2 h => .obj (e _ _ h1) (e _ _ h2) (dq_mo' e h)
theorem dqa_mo' (e : Ex H H') : ∀ {ds : List PyData} {vs : List V}, DqAll H vs ds → DqAll H' vs ds
  | _, _, .nil => .nil
  | _, _, .cons h1 h2 => .cons (dq_mo' e h1) (dqa_mo' e h2)
end
theorem dq_mo (e : Ex H H') (d : PyData) (v : V) (h : Dq H v d) : Dq H' v d := dq_mo' e h
theorem dqa_mo (e : Ex H H') (ds : List PyData) (vs : List V) (h : DqAll H vs ds) : DqAll H' vs ds := dqa_mo' e h
end
section
variable {H H' : Hp}
theorem dqa_len {vs : List V} {ds : List PyData} (h : DqAll H vs ds) : vs.length = ds.length := by
  induction ds generalizing vs with
  | nil => cases h; rfl
  | cons d ds ih => cases h with | cons a b => simp [ih b]
theorem dqa_get {vs : List V} {ds : List PyData} (h : DqAll H vs ds) {i : Nat} {v : V} (hv : vs[i]? = some v) : ∃ d, ds[i]? = some d ∧ Dq H v d := by
  induction ds generalizing vs i with
  | nil => cases h; simp at hv
  | cons d ds ih =>
    cases h with
    | cons a b =>
      cases i with
      | zero => simp at hv; subst hv; exact ⟨d, by simp, a⟩
      | succ i => simp at hv; obtain ⟨d', h1, h2⟩ := ih b hv; exact ⟨d', by simpa using h1, h2⟩
theorem dqa_getd {vs : List V} {ds : List PyData} (h : DqAll H vs ds) {i : Nat} {d : PyData} (hv : ds[i]? = some d) : ∃ v, vs[i]? = some v ∧ Dq H v d := by
  induction ds generalizing vs i with
  | nil => simp at hv
  | cons d' ds ih =>
    cases h with
    | cons a b =>
      cases i with
      | zero => simp at hv; subst hv; exact ⟨_, by simp, a⟩
      | succ i => simp at hv; obtain ⟨v, h1, h2⟩ := ih b hv; exact ⟨v, by simpa using h1, h2⟩
theorem dqa_app {vs ws : List V} {ds es : List PyData} (h : DqAll H vs ds) (h' : DqAll H ws es) : DqAll H (vs ++ ws) (ds ++ es) := by
  induction ds generalizing vs with
  | nil => cases h; simpa using h'
  | cons d ds ih => cases h with | cons a b => exact .cons a (ih b)
theorem dqa_snoc {vs : List V} {v : V} {ds : List PyData} {d : PyData} (h : DqAll H vs ds) (h' : Dq H v d) : DqAll H (vs ++ [v]) (ds ++ [d]) := dqa_app h (.cons h' .nil)
theorem dqa_take {vs : List V} {ds : List PyData} (n : Nat) (h : DqAll H vs ds) : DqAll H (vs.take n) (ds.take n) := by
  induction ds generalizing vs n with
  | nil => cases h; simp; exact .nil
  | cons d ds ih => cases h with | cons a b => cases n with
    | zero => exact .nil
    | succ n => exact .cons a (ih n b)
theorem dqa_drop {vs : List V} {ds : List PyData} (n : Nat) (h : DqAll H vs ds) : DqAll H (vs.drop n) (ds.drop n) := by
  induction ds generalizing vs n with
  | nil => cases h; simp; exact .nil
  | cons d ds ih => cases h with | cons a b => cases n with
    | zero => exact .cons a b
    | succ n => exact ih n b
theorem dqa_rev {vs : List V} {ds : List PyData} (h : DqAll H vs ds) : DqAll H vs.reverse ds.reverse := by
  induction ds generalizing vs with
  | nil => cases h; exact .nil
  | cons d ds ih => cases h with | cons a b => rw [List.reverse_cons, List.reverse_cons]; exact dqa_snoc (ih b) a
theorem dqa_era {vs : List V} {ds : List PyData} (n : Nat) (h : DqAll H vs ds) : DqAll H (vs.eraseIdx n) (ds.eraseIdx n) := by
  induction ds generalizing vs n with
  | nil => cases h; simp; exact .nil
  | cons d ds ih => cases h with | cons a b => cases n with
    | zero => exact b
    | succ n => exact .cons a (ih n b)
end

/-! ### Lean types that stand for Python data -/
class Py (α : Type) where
  enc : α → PyData
abbrev en {α : Type} [Py α] (a : α) : PyData := Py.enc a
instance pyInt : Py Int := ⟨.int⟩
instance pyBool : Py Bool := ⟨.bool⟩
instance pyStr : Py Str := ⟨.str⟩
instance pyUnit : Py Unit := ⟨fun _ => .none⟩
instance pyData : Py PyData := ⟨id⟩
instance pyList {α : Type} [Py α] : Py (List α) := ⟨fun xs => .list (xs.map Py.enc)⟩
instance pyProd {α β : Type} [Py α] [Py β] : Py (α × β) := ⟨fun p => .tuple [Py.enc p.1, Py.enc p.2]⟩
structure T1 (α : Type) where
  a : α
  deriving DecidableEq
structure T3 (α β γ : Type) where
  a : α
  b : β
  c : γ
  deriving DecidableEq
structure T4 (α β γ δ : Type) where
  a : α
  b : β
  c : γ
  d : δ
  deriving DecidableEq
structure VT (α : Type) where
  l : List α
  deriving DecidableEq
instance pyT1 {α : Type} [Py α] : Py (T1 α) := ⟨fun p => .tuple [Py.enc p.a]⟩
instance pyT3 {α β γ : Type} [Py α] [Py β] [Py γ] : Py (T3 α β γ) := ⟨fun p => .tuple [Py.enc p.a, Py.enc p.b, Py.enc p.c]⟩
instance pyT4 {α β γ δ : Type} [Py α] [Py β] [Py γ] [Py δ] : Py (T4 α β γ δ) := ⟨fun p => .tuple [Py.enc p.a, Py.enc p.b, Py.enc p.c, Py.enc p.d]⟩
instance pyVT {α : Type} [Py α] : Py (VT α) := ⟨fun p => .tuple (p.l.map Py.enc)⟩

/-! equality of data is equality of what they stand for; data that == may compare -/
class PyE (α : Type) [Py α] [DecidableEq α] : Prop where
  eq : ∀ a b : α, PyData.eqv (Py.enc a) (Py.enc b) = decide (a = b)
class Sh (α : Type) [Py α] (n : outParam Nat) : Prop where
  lay : ∀ a : α, (Py.enc a).canLay0 = true
  dep : ∀ a : α, (Py.enc a).depth ≤ n
theorem eqvAll_map {α : Type} [Py α] [DecidableEq α] [PyE α] : ∀ xs ys : List α, PyData.eqvAll (xs.map Py.enc) (ys.map Py.enc) = decide (xs = ys)
  | [], [] => by simp [PyData.eqvAll]
  | [], y :: ys => by simp [PyData.eqvAll]
  | x :: xs, [] => by simp [PyData.eqvAll]
  | x :: xs, y :: ys => by
    rw [List.map_cons, List.map_cons, PyData.eqvAll, PyE.eq, eqvAll_map xs ys]
    by_cases h : x = y <;> by_cases h' : xs = ys <;> simp [h, h']
instance peInt : PyE Int := ⟨fun a b => by simp only [Py.enc, PyData.eqv]; rw [Bool.beq_eq_decide_eq]⟩
instance peBool : PyE Bool := ⟨fun a b => by simp only [Py.enc, PyData.eqv]; rw [Bool.beq_eq_decide_eq]⟩
instance peStr : PyE Str := ⟨fun a b => by simp only [Py.enc, PyData.eqv]; rw [Bool.beq_eq_decide_eq]⟩
instance peUnit : PyE Unit := ⟨fun a b => by simp [Py.enc, PyData.eqv]⟩
instance peList {α : Type} [Py α] [DecidableEq α] [PyE α] : PyE (List α) := ⟨fun a b => by
  show PyData.eqv (.list _) (.list _) = _
  rw [PyData.eqv, eqvAll_map]⟩
instance peProd {α β : Type} [Py α] [DecidableEq α] [PyE α] [Py β] [DecidableEq β] [PyE β] : PyE (α × β) := ⟨fun a b => by
  show PyData.eqv (.tuple _) (.tuple _) = _
  obtain ⟨a1, a2⟩ := a
  obtain ⟨b1, b2⟩ := b
  simp only [PyData.eqv, PyData.eqvAll, PyE.eq, Bool.and_true]
  by_cases h : a1 = b1 <;> by_cases h' : a2 = b2 <;> simp [h, h']⟩
instance peVT {α : Type} [Py α] [DecidableEq α] [PyE α] : PyE (VT α) := ⟨fun a b => by
  show PyData.eqv (.tuple _) (.tuple _) = _
  obtain ⟨a⟩ := a
  obtain ⟨b⟩ := b
  rw [PyData.eqv, eqvAll_map]
  simp⟩
theorem lay_map {α : Type} [Py α] {n : Nat} [Sh α n] : ∀ xs : List α, PyData.canLayAll0 (xs.map Py.enc) = true
  | [] => by simp [PyData.canLayAll0]
  | x :: xs => by rw [List.map_cons, PyData.canLayAll0, Sh.lay, lay_map xs]; rfl
theorem dep_map {α : Type} [Py α] {n : Nat} [Sh α n] : ∀ xs : List α, PyData.depthAll (xs.map Py.enc) ≤ n
  | [] => by simp [PyData.depthAll]
  | x :: xs => by
    rw [List.map_cons, PyData.depthAll]
    have h1 := Sh.dep x
    have h2 := dep_map xs
    omega
instance shInt : Sh Int 0 := ⟨fun a => by simp [Py.enc, PyData.canLay0], fun a => by simp [Py.enc, PyData.depth]⟩
instance shBool : Sh Bool 0 := ⟨fun a => by simp [Py.enc, PyData.canLay0], fun a => by simp [Py.enc, PyData.depth]⟩
instance shUnit : Sh Unit 0 := ⟨fun a => by simp [Py.enc, PyData.canLay0], fun a => by simp [Py.enc, PyData.depth]⟩
instance shList {α : Type} [Py α] {n : Nat} [Sh α n] : Sh (List α) (n + 1) := ⟨fun a => by
  show PyData.canLay0 (.list _) = true
  rw [PyData.canLay0, lay_map], fun a => by
  show PyData.depth (.list _) ≤ n + 1
  rw [PyData.depth]
  have := dep_map a
  omega⟩
instance shVT {α : Type} [Py α] {n : Nat} [Sh α n] : Sh (VT α) (n + 1) := ⟨fun a => by
  show PyData.canLay0 (.tuple _) = true
  rw [PyData.canLay0, lay_map], fun a => by
  show PyData.depth (.tuple _) ≤ n + 1
  rw [PyData.depth]
  have := dep_map a.l
  omega⟩
instance shProd {α β : Type} [Py α] [Py β] {n m : Nat} [Sh α n] [Sh β m] : Sh (α × β) (max n m + 1) := ⟨fun a => by
  show PyData.canLay0 (.tuple _) = true
  simp [PyData.canLay0, PyData.canLayAll0, Sh.lay], fun a => by
  show PyData.depth (.tuple _) ≤ _
  simp only [PyData.depth, PyData.depthAll]
  have h1 := Sh.dep a.1
  have h2 := Sh.dep a.2
  omega⟩
theorem shp {α : Type} [Py α] {n : Nat} [Sh α n] (a : α) (h : n ≤ 64) : SeqAt.shaped (Py.enc a) = true := by
  unfold SeqAt.shaped
  rw [Sh.lay, decide_eq_true (Nat.le_trans (Sh.dep a) h)]
  rfl
end Zk

namespace Zk
open PySem L2

/-! ### the frame of a def's run -/
/-- an object of the def's own (or handed to be changed): footprint outside all that is frozen or protected -/
structure Res where
  R : PySem.W.Frag → Hp → Hp → Hp → V → (Addr → Prop) → Prop
  mo : ∀ {K : PySem.W.Frag} {B F F' H H' : Hp} {v : V} {A : Addr → Prop}, R K B F H v A → Ex F F' → (∀ l o, A l → H l = some o → H' l = some o) → R K B F' H' v A
inductive En : Type 1 where
  | no
  | dat (α : Type) (i : Py α) (k : Bool) (a : α)
  | res (r : Res)
structure Bs where
  B : Hp
  F0 : Hp
  R : List En
structure Frz (z : Bs) (F H : Hp) : Prop where
  f : Ex z.F0 F
  h : Ex F H
  b : Ex z.B H
  n : ∀ l, z.B l ≠ none → F l = z.F0 l
structure Grow (F H F' H' : Hp) : Prop where
  f : Ex F F'
  h : Ex F' H'
  b : Ex H H'
  n : ∀ l, H l ≠ none → F' l = F l
theorem Ex.ne {H H' : Hp} (e : Ex H H') {l : Addr} (h : H l ≠ none) : H' l ≠ none := by
  cases q : H l with
  | none => exact absurd q h
  | some o => rw [e l o q]; exact fun z => by cases z
theorem Grow.rf {F H : Hp} (h : Ex F H) : Grow F H F H := ⟨Ex.rf _, h, Ex.rf _, fun _ _ => rfl⟩
theorem Grow.tr {F H F1 H1 F2 H2 : Hp} (a : Grow F H F1 H1) (c : Grow F1 H1 F2 H2) : Grow F H F2 H2 :=
  ⟨a.f.tr c.f, c.h, a.b.tr c.b, fun l h => (c.n l (a.b.ne h)).trans (a.n l h)⟩
theorem Frz.gr {b : Bs} {F H F' H' : Hp} (a : Frz b F H) (g : Grow F H F' H') : Frz b F' H' :=
  ⟨a.f.tr g.f, g.h, a.b.tr g.b, fun l h => (g.n l (a.b.ne h)).trans (a.n l h)⟩
/-- a new object, frozen at once -/
theorem Grow.new {F H : Hp} {p : Addr} {o : HO} (e : Ex F H) (h : H p = none) : Grow F H (upd F p o) (upd H p o) := by
  refine ⟨Ex.nw (e.no h), fun a u q => ?_, Ex.nw h, fun l hl => ?_⟩
  · by_cases z : a = p
    · subst z; rw [upd_same] at q ⊢; exact q
    · rw [upd_ne z] at q ⊢; exact e a u q
  · rw [upd_ne]; intro z; subst z; exact hl h

/-- which part of the heap data live in: the whole heap as it stands; the frozen part; its part that is new since the entry -/
inductive Lv where
  | bor
  | st (fresh : Bool)
def nofrz : Option HO → Option HO
  | some (.frz _ _) => none
  | o => o
theorem nofrz_some {o : Option HO} {u : HO} (h : nofrz o = some u) : o = some u := by
  cases o with
  | none => cases h
  | some o => cases o <;> first | exact h | cases h
theorem nofrz_id {u : HO} {o : Option HO} (h : nofrz o = some u) : nofrz (some u) = some u := by
  rw [nofrz_some h] at h
  exact h
def sel2 (B F : Hp) : Bool → Hp
  | false => F
  | true => fun l => match B l with
    | none => nofrz (F l)
    | some _ => none
def sel (b : Bs) (F H : Hp) : Lv → Hp
  | .bor => H
  | .st k => sel2 b.B F k
theorem sel2_mo {B F F' : Hp} (e : Ex F F') : ∀ k, Ex (sel2 B F k) (sel2 B F' k)
  | false => e
  | true => fun l o h => by
    simp only [sel2] at h ⊢
    cases q : B l with
    | none =>
      rw [q] at h
      have h : nofrz (F l) = some o := h
      show nofrz (F' l) = some o
      rw [e l o (nofrz_some h)]
      exact nofrz_id h
    | some u => rw [q] at h; cases h
theorem sel2_le {B F : Hp} : ∀ k, Ex (sel2 B F k) F
  | false => Ex.rf _
  | true => fun l o h => by
    simp only [sel2] at h
    cases q : B l with
    | none => rw [q] at h; exact nofrz_some h
    | some u => rw [q] at h; cases h
theorem sel_mo {b : Bs} {F H F' H' : Hp} (g : Grow F H F' H') : ∀ lv, Ex (sel b F H lv) (sel b F' H' lv)
  | .bor => g.b
  | .st k => sel2_mo g.f k
theorem sel_le {b : Bs} {F H : Hp} (e : Ex F H) : ∀ lv, Ex (sel b F H lv) H
  | .bor => Ex.rf _
  | .st k => (sel2_le k).tr e
theorem sel2_at {B F : Hp} {p : Addr} {o : HO} (hB : B p = none) (hF : F p = some o) (ho : nofrz (some o) = some o) : ∀ k, sel2 B F k p = some o
  | false => hF
  | true => by
    simp only [sel2]
    rw [hB]
    show nofrz (F p) = some o
    rw [hF]
    exact ho
theorem sel2_new {b : Bs} {F H : Hp} (fz : Frz b F H) {p : Addr} {o : HO} (h : H p = none) (k : Bool) (ho : nofrz (some o) = some o := by rfl) : sel2 b.B (upd F p o) k p = some o :=
  sel2_at (fz.b.no h) upd_same ho k
/-- in the new part nothing is locked -/
theorem rd_new {B F : Hp} {a : Addr} {u : HO} (h : Rd (sel2 B F true) a u) : sel2 B F true a = some u := by
  rcases h with h | ⟨o, h⟩
  · exact h
  · simp only [sel2] at h
    cases q : B a with
    | none =>
      rw [q] at h
      have h : nofrz (F a) = some (.frz o u) := h
      rw [nofrz_some h] at h
      cases h
    | some u => rw [q] at h; cases h

/-! ### environments -/
def Sl (K : PySem.W.Frag) (b : Bs) (F H : Hp) (o : Option V) (e : En) (A : Addr → Prop) : Prop :=
  match e with
  | .no => True
  | .dat _ i k a => ∃ v, o = some v ∧ Dq (sel2 b.B F k) v (i.enc a)
  | .res r => ∃ v, o = some v ∧ r.R K b.B F H v A
structure EnvOk (K : PySem.W.Frag) (b : Bs) (F H : Hp) (σ : L2.St) (Γ : List En) : Prop where
  fr : Frz b F H
  len : σ.length = Γ.length
  sl : ∃ fp : Nat → Addr → Prop, (∀ i j l, fp i l → fp j l → i = j) ∧ (∀ i l, fp i l → H l ≠ none ∧ F l = none ∧ b.B l = none) ∧
    ∀ i e, Γ[i]? = some e → ∃ o, σ[i]? = some o ∧ Sl K b F H o e (fp i)
section
variable {K : PySem.W.Frag} {b : Bs} {F H F' H' : Hp} {σ : L2.St} {Γ Γ' : List En}
theorem Sl.gr {o : Option V} {e : En} {A : Addr → Prop} (s : Sl K b F H o e A) (g : Ex F F') (hA : ∀ l o, A l → H l = some o → H' l = some o) : Sl K b F' H' o e A := by
  cases e with
  | no => exact True.intro
  | dat α i k a => obtain ⟨v, h1, h2⟩ := s; exact ⟨v, h1, dq_mo (sel2_mo g k) _ _ h2⟩
  | res r => obtain ⟨v, h1, h2⟩ := s; exact ⟨v, h1, r.mo h2 g hA⟩
theorem EnvOk.gr (e : EnvOk K b F H σ Γ) (g : Grow F H F' H') : EnvOk K b F' H' σ Γ := by
  obtain ⟨fr, len, fp, h1, h2, h3⟩ := e
  refine ⟨fr.gr g, len, fp, h1, fun i l h => ?_, fun i e he => ?_⟩
  · obtain ⟨a, c, d⟩ := h2 i l h
    exact ⟨g.b.ne a, (g.n l a).trans c, d⟩
  · obtain ⟨o, a, c⟩ := h3 i e he
    exact ⟨o, a, c.gr g.f fun l o _ q => g.b l o q⟩
/-- forgetting entries -/
inductive Sub : List En → List En → Prop where
  | nil : Sub [] []
  | keep {e : En} {Γ Γ' : List En} : Sub Γ Γ' → Sub (e :: Γ) (e :: Γ')
  | drop {e : En} {Γ Γ' : List En} : Sub Γ Γ' → Sub (e :: Γ) (.no :: Γ')
theorem Sub.rf : ∀ Γ : List En, Sub Γ Γ
  | [] => .nil
  | _ :: Γ => .keep (Sub.rf Γ)
theorem Sub.len (s : Sub Γ Γ') : Γ.length = Γ'.length := by
  induction s with
  | nil => rfl
  | keep _ ih => simp [ih]
  | drop _ ih => simp [ih]
theorem Sub.at (s : Sub Γ Γ') : ∀ (i : Nat) (e : En), Γ'[i]? = some e → e = .no ∨ Γ[i]? = some e := by
  induction s with
  | nil => intro i e h; simp at h
  | keep _ ih => intro i e h; cases i with
    | zero => exact .inr (by simpa using h)
    | succ i => simpa using ih i e (by simpa using h)
  | drop _ ih => intro i e h; cases i with
    | zero => left; simpa using h.symm
    | succ i => simpa using ih i e (by simpa using h)
theorem EnvOk.sub (e : EnvOk K b F H σ Γ) (s : Sub Γ Γ') : EnvOk K b F H σ Γ' := by
  obtain ⟨fr, len, fp, h1, h2, h3⟩ := e
  refine ⟨fr, len.trans s.len, fp, h1, h2, fun i e he => ?_⟩
  rcases s.at i e he with rfl | h
  · have hi : i < σ.length := by rw [len, s.len]; exact (List.getElem?_eq_some_iff.mp he).1
    exact ⟨σ[i], List.getElem?_eq_getElem hi, True.intro⟩
  · exact h3 i e h
/-- a slot is set to data -/
theorem EnvOk.setD (e : EnvOk K b F H σ Γ) {α : Type} {i : Py α} {k : Bool} {a : α} {v : V} (h : Dq (sel2 b.B F k) v (i.enc a)) (j : Nat) : EnvOk K b F H (σ.set j (some v)) (Γ.set j (.dat α i k a)) := by
  obtain ⟨fr, len, fp, h1, h2, h3⟩ := e
  refine ⟨fr, by simpa using len, fp, h1, h2, fun m e he => ?_⟩
  by_cases z : j = m
  · subst z
    have hj : j < Γ.length := by simpa using (List.getElem?_eq_some_iff.mp he).1
    rw [List.getElem?_set_self hj] at he
    cases he
    exact ⟨some v, by rw [List.getElem?_set_self (by omega)], v, rfl, h⟩
  · rw [List.getElem?_set_ne z] at he
    obtain ⟨o, a, c⟩ := h3 m e he
    exact ⟨o, by rw [List.getElem?_set_ne z]; exact a, c⟩
/-- a slot is set to a new object -/
theorem EnvOk.setR (e : EnvOk K b F H σ Γ) {r : Res} {v : V} {A : Addr → Prop} (h : r.R K b.B F H v A) (hA : ∀ l, A l → H l ≠ none ∧ F l = none ∧ b.B l = none)
    (hd : ∀ fp : Nat → Addr → Prop, (∀ i l, fp i l → H l ≠ none ∧ F l = none ∧ b.B l = none) → (∀ i e, Γ[i]? = some e → ∃ o, σ[i]? = some o ∧ Sl K b F H o e (fp i)) → (∀ i j l, fp i l → fp j l → i = j) → ∀ i l, A l → ¬ fp i l) (j : Nat) : EnvOk K b F H (σ.set j (some v)) (Γ.set j (.res r)) := by
  obtain ⟨fr, len, fp, h1, h2, h3⟩ := e
  refine ⟨fr, by simpa using len, fun m => if m = j then A else fp m, fun m n l hm hn => ?_, fun m l hm => ?_, fun m e he => ?_⟩
  · have q := hd fp h2 h3 h1
    by_cases z : m = j <;> by_cases y : n = j
    · rw [z, y]
    · simp only [if_pos z, if_neg y] at hm hn
      exact absurd hn (q n l hm)
    · simp only [if_neg z, if_pos y] at hm hn
      exact absurd hm (q m l hn)
    · simp only [if_neg z, if_neg y] at hm hn
      exact h1 m n l hm hn
  · by_cases z : m = j
    · simp only [if_pos z] at hm; exact hA l hm
    · simp only [if_neg z] at hm; exact h2 m l hm
  · by_cases z : j = m
    · subst z
      have hj : j < Γ.length := by simpa using (List.getElem?_eq_some_iff.mp he).1
      rw [List.getElem?_set_self hj] at he
      cases he
      exact ⟨some v, by rw [List.getElem?_set_self (by omega)], v, rfl, by simpa using h⟩
    · rw [List.getElem?_set_ne z] at he
      obtain ⟨o, a, c⟩ := h3 m e he
      refine ⟨o, by rw [List.getElem?_set_ne z]; exact a, ?_⟩
      simp only [if_neg (Ne.symm z)]
      exact c
end

/-! ### the canonical readings -/
def tE (K : PySem.W.Frag) (b : Bs) (Γ : List En) (lv : Lv) (d : PyData) : TE := fun σ H Q => ∃ F, EnvOk K b F H σ Γ ∧ ∀ v F' H', Grow F H F' H' → Dq (sel b F' H' lv) v d → Q v H'
def tT (K : PySem.W.Frag) (b : Bs) (Γ : List En) (c : Bool) : TT := fun σ H Q => ∃ F, EnvOk K b F H σ Γ ∧ ∀ F' H', Grow F H F' H' → Q c H'
/-- what arguments stand for -/
inductive DqL (b : Bs) (F H : Hp) : List V → List (Lv × PyData) → Prop where
  | nil : DqL b F H [] []
  | cons {v : V} {vs : List V} {lv : Lv} {d : PyData} {ds : List (Lv × PyData)} : Dq (sel b F H lv) v d → DqL b F H vs ds → DqL b F H (v :: vs) ((lv, d) :: ds)
theorem DqL.gr {b : Bs} {F H F' H' : Hp} {vs : List V} {ds : List (Lv × PyData)} (h : DqL b F H vs ds) (g : Grow F H F' H') : DqL b F' H' vs ds := by
  induction h with
  | nil => exact .nil
  | cons a _ ih => exact .cons (dq_mo (sel_mo g _) _ _ a) ih
def tA (K : PySem.W.Frag) (b : Bs) (Γ : List En) (ds : List (Lv × PyData)) : TA := fun σ H Q => ∃ F, EnvOk K b F H σ Γ ∧ ∀ vs F' H', Grow F H F' H' → DqL b F' H' vs ds → Q vs H'
/-- what a block owes its surroundings: a value handed back, or an environment behind it -/
def EndOk (K : PySem.W.Frag) (b : Bs) (rl : Bool) (D : Ends) (Γ' : List En) (F : Hp) : Option PyData → Prop
  | some d => ∀ v σ' F' H', Ex F F' → EnvOk K b F' H' σ' b.R → Dq (sel2 b.B F' rl) v d → D.rt v H'
  | none => ∀ σ' F' H', Ex F F' → EnvOk K b F' H' σ' Γ' → D.nx σ' H'
def tS (K : PySem.W.Frag) (b : Bs) (rl : Bool) (Γ : List En) (o : Option PyData) (Γ' : List En) : TS := fun D σ H => ∃ F, EnvOk K b F H σ Γ ∧ EndOk K b rl D Γ' F o
def tG' (K : PySem.W.Frag) (b : Bs) (Γ : List En) (k : Bool) (d : PyData) (js : List Nat) (Γ' : List En) : TG := fun v σ H Q => ∃ F, EnvOk K b F H σ Γ ∧ Dq (sel2 b.B F k) v d ∧ ∀ σ', EnvOk K b F H σ' Γ' → σ'.length = σ.length → (∀ i, i ∉ js → σ'[i]? = σ[i]?) → Q σ' H

section
variable {X : Cx}
theorem PE.wk {e : Expr} {t t' : TE} (h : PE X e t) (w : ∀ σ H Q, t' σ H Q → t σ H Q) : PE X e t' := ⟨fun pins s σ H Q I q => h.run pins s σ H Q I (w σ H Q q)⟩
theorem PT.wk {e : Expr} {t t' : TT} (h : PT X e t) (w : ∀ σ H Q, t' σ H Q → t σ H Q) : PT X e t' := ⟨fun pins s σ H Q I q => h.run pins s σ H Q I (w σ H Q q)⟩
theorem PW.wk {e : Expr} {t t' : TT} (h : PW X e t) (w : ∀ σ H Q, t' σ H Q → t σ H Q) : PW X e t' := ⟨fun wh pins s σ H Q I q => h.run wh pins s σ H Q I (w σ H Q q)⟩
theorem PA.wk {e : List Expr} {t t' : TA} (h : PA X e t) (w : ∀ σ H Q, t' σ H Q → t σ H Q) : PA X e t' := ⟨fun ps pins s σ H Q I q => h.run ps pins s σ H Q I (w σ H Q q)⟩
theorem PS.wk {e : Stmt} {t t' : TS} (h : PS X e t) (w : ∀ D σ H, t' D σ H → t D σ H) : PS X e t' := ⟨fun pins s σ H D I q => h.run pins s σ H D I (w D σ H q)⟩
theorem PSs.wk {e : List Stmt} {t t' : TS} (h : PSs X e t) (w : ∀ D σ H, t' D σ H → t D σ H) : PSs X e t' := ⟨fun pins s σ H D I q => h.run pins s σ H D I (w D σ H q)⟩
theorem PG.wk {e : Expr} {t t' : TG} (h : PG X e t) (w : ∀ v σ H Q, t' v σ H Q → t v σ H Q) : PG X e t' := ⟨fun pins s σ H v u Q I r q => h.run pins s σ H v u Q I r (w v σ H Q q)⟩
end

/-! ### judgements -/
section
variable (X : Cx) (b : Bs)
abbrev XE (e : Expr) (Γ : List En) (lv : Lv) {α : Type} [Py α] (a : α) : Prop := PE X e (tE X.K b Γ lv (Py.enc a))
abbrev XT (e : Expr) (Γ : List En) (c : Bool) : Prop := PT X e (tT X.K b Γ c)
abbrev XW (e : Expr) (Γ : List En) (c : Bool) : Prop := PW X e (tT X.K b Γ c)
abbrev XA (es : List Expr) (Γ : List En) (ds : List (Lv × PyData)) : Prop := PA X es (tA X.K b Γ ds)
abbrev XS (rl : Bool) (st : Stmt) (Γ : List En) {β : Type} [Py β] (o : Option β) (Γ' : List En) : Prop := PS X st (tS X.K b rl Γ (o.map Py.enc) Γ')
abbrev XB (rl : Bool) (ss : List Stmt) (Γ : List En) {β : Type} [Py β] (o : Option β) (Γ' : List En) : Prop := PSs X ss (tS X.K b rl Γ (o.map Py.enc) Γ')
abbrev XG (tg : Expr) (Γ : List En) (k : Bool) {α : Type} [Py α] (a : α) (js : List Nat) (Γ' : List En) : Prop := PG X tg (tG' X.K b Γ k (Py.enc a) js Γ')
end
/-- what is known of where one stands -/
structure Cf (X : Cx) (N : List Str) (sc : Scope) (mg : Str → Option Value) (W : Str → Bool) : Prop where
  hN : X.N = N
  hs : X.env.scope = sc
  hm : X.mg = mg
  nd : N.Nodup
  calm : X.calm = true
  pass : PassesOwn (model X.prog X.w) X.A X.env X.xe
  un : X.A.units + 65 < cLine
  fn : ∀ x, W x = true → X.fn x = true ∨ X.env.scope.names.lookup x = some .local
end Zk

namespace Zk
open PySem PySem.Spec PyProof.Rows L2

/-! ### what values data are -/
section
variable {H : Hp} {v : V}
theorem dp_int {i : Int} (h : Dq H v (Py.enc i)) : v = .int i := by cases h; rfl
theorem dp_bl {i : Bool} (h : Dq H v (Py.enc i)) : v = .bl i := by cases h; rfl
theorem dp_str {i : Str} (h : Dq H v (Py.enc i)) : v = .str i := by cases h; rfl
theorem dp_non {i : Unit} (h : Dq H v (Py.enc i)) : v = .non := by cases h; rfl
theorem dp_lst {α : Type} [Py α] {xs : List α} (h : Dq H v (Py.enc xs)) : ∃ a vs, v = .ref a ∧ Rd H a (.lst vs) ∧ vs.length ≤ sizeLine ∧ DqAll H vs (xs.map Py.enc) := by
  cases h with
  | lst hs hz ha => exact ⟨_, _, rfl, hs, hz, ha⟩
theorem dp_tup {ds : List PyData} (h : Dq H v (.tuple ds)) : ∃ a vs, v = .ref a ∧ Rd H a (.tup vs) ∧ vs.length ≤ sizeLine ∧ DqAll H vs ds := by
  cases h with
  | tup hs hz ha => exact ⟨_, _, rfl, hs, hz, ha⟩
end
/-- scalars: the same in every heap -/
class Scal (α : Type) [Py α] : Prop where
  any : ∀ (H H' : Hp) (v : V) (a : α), Dq H v (Py.enc a) → Dq H' v (Py.enc a)
instance scInt : Scal Int := ⟨fun _ _ _ _ h => by cases h; exact .int _⟩
instance scBool : Scal Bool := ⟨fun _ _ _ _ h => by cases h; exact .bl _⟩
instance scStr : Scal Str := ⟨fun _ _ _ _ h => by cases h; exact .str _⟩
instance scUnit : Scal Unit := ⟨fun _ _ _ _ h => by cases h; exact .non⟩
theorem dqa_sc {H H' : Hp} {α : Type} [Py α] [Scal α] : ∀ (xs : List α) (vs : List V), DqAll H vs (xs.map Py.enc) → DqAll H' vs (xs.map Py.enc)
  | [], _, h => by cases h; exact .nil
  | x :: xs, _, h => by
    cases h with
    | cons a c => exact .cons (Scal.any H H' _ x a) (dqa_sc xs _ c)
inductive Le : Lv → Lv → Prop where
  | bor (l : Lv) : Le .bor l
  | rf (l : Lv) : Le l l
  | st : Le (.st false) (.st true)
theorem Le.ex {b : Bs} {F H : Hp} {l m : Lv} (h : Le l m) (e : Ex F H) : Ex (sel b F H m) (sel b F H l) := by
  cases h with
  | bor m => exact sel_le e m
  | rf => exact Ex.rf _
  | st => exact sel2_le true

def memB {α : Type} [DecidableEq α] (x : α) (xs : List α) : Bool := decide (x ∈ xs)
theorem memB_t {α : Type} [DecidableEq α] {x : α} {xs : List α} : memB x xs = true ↔ x ∈ xs := by unfold memB; exact decide_eq_true_iff
theorem memB_f {α : Type} [DecidableEq α] {x : α} {xs : List α} : memB x xs = false ↔ x ∉ xs := by unfold memB; exact decide_eq_false_iff_not
section
variable {X : Cx} {b : Bs} {N : List Str} {sc : Scope} {mg : Str → Option Value} {W : Str → Bool} {Γ : List En} {lv la lb lc : Lv} {pos : Pos}
/-! ### structural -/
theorem xe_sc {e : Expr} {α : Type} [Py α] [Scal α] {a : α} (h : XE X b e Γ la a) : XE X b e Γ lv a :=
  PE.wk h fun σ H Q ⟨F, ok, k⟩ => ⟨F, ok, fun v F' H' g d => k v F' H' g (Scal.any _ _ _ _ d)⟩
theorem xe_le {e : Expr} {α : Type} [Py α] {a : α} (h : XE X b e Γ la a) (l : Le lv la) : XE X b e Γ lv a :=
  PE.wk h fun σ H Q ⟨F, ok, k⟩ => ⟨F, ok, fun v F' H' g d => k v F' H' g (dq_mo (l.ex g.h) _ _ d)⟩
theorem xe_eq {e : Expr} {α : Type} [Py α] {a a' : α} (h : XE X b e Γ lv a) (q : a = a') : XE X b e Γ lv a' := q ▸ h
theorem xt_eq {e : Expr} {a a' : Bool} (h : XT X b e Γ a) (q : a = a') : XT X b e Γ a' := q ▸ h
/-- a list of scalars' items live nowhere; the list itself does -/
theorem xe_sub {e : Expr} {α : Type} [Py α] {a : α} {Γ' : List En} (h : XE X b e Γ' lv a) (s : Sub Γ Γ') : XE X b e Γ lv a :=
  PE.wk h fun σ H Q ⟨F, ok, k⟩ => ⟨F, ok.sub s, k⟩

/-! ### names, constants -/
theorem xe_var (c : Cf X N sc mg W) (i : Nat) {x : Str} {α : Type} {ins : Py α} {k : Bool} {a : α} (hN : N[i]? = some x) (hv : Vis sc x) (hΓ : Γ[i]? = some (.dat α ins k a)) (hd : (x == ("__debug__" : Str)) = false := by decide) (hcd : (x == ("__classdict__" : Str)) = false := by decide) :
    @XE X b (.Name x pos) Γ (.st k) α ins a := by
  refine PE.wk (pe_var (i := i) (by rw [c.hN]; exact hN) (by rw [c.hs]; exact hv) hd hcd) fun σ H Q ⟨F, ok, kq⟩ => ?_
  obtain ⟨fp, _, _, h3⟩ := ok.sl
  obtain ⟨o, ho, v, hv, d⟩ := h3 i _ hΓ
  exact ⟨v, by rw [ho, hv], kq v F H (Grow.rf ok.fr.h) d⟩
theorem xe_int {i : Int} {j} : XE X b (.Constant (.int i) j pos) Γ lv i := PE.wk pe_int fun σ H Q ⟨F, ok, k⟩ => k _ F H (Grow.rf ok.fr.h) (.int _)
theorem xe_bl {i : Bool} {j} : XE X b (.Constant (.bool i) j pos) Γ lv i := PE.wk pe_bl fun σ H Q ⟨F, ok, k⟩ => k _ F H (Grow.rf ok.fr.h) (.bl _)
theorem xe_str {i : Str} {j} : XE X b (.Constant (.str i) j pos) Γ lv i := PE.wk pe_str fun σ H Q ⟨F, ok, k⟩ => k _ F H (Grow.rf ok.fr.h) (.str _)
theorem xe_non {j} : XE X b (.Constant .none j pos) Γ lv () := PE.wk pe_non fun σ H Q ⟨F, ok, k⟩ => k _ F H (Grow.rf ok.fr.h) .non

/-! ### operators -/
theorem xe_op {op : Operator} {r : R2} {e1 e2 : Expr} {α β γ : Type} [Py α] [Py β] [Py γ] {x : α} {y : β} {z : γ} (ho : OpR X (binaryOp op) r) (h1 : XE X b e1 Γ la x) (h2 : XE X b e2 Γ lb y)
    (h : ∀ F H v w (Q : VK), Frz b F H → Dq (sel b F H la) v (Py.enc x) → Dq (sel b F H lb) w (Py.enc y) → (∀ u F' H', Grow F H F' H' → Dq (sel b F' H' lc) u (Py.enc z) → Q u H') → r v w H Q) :
    XE X b (.BinOp e1 op e2 pos) Γ lc z :=
  PE.wk (pe_op ho h1 h2) fun σ H Q ⟨F, ok, k⟩ => ⟨F, ok, fun v F1 H1 g1 d1 => ⟨F1, ok.gr g1, fun w F2 H2 g2 d2 =>
    h F2 H2 v w Q ((ok.gr g1).gr g2).fr (dq_mo (sel_mo g2 _) _ _ d1) d2 fun u F3 H3 g3 d3 => k u F3 H3 ((g1.tr g2).tr g3) d3⟩⟩
theorem xe_opI {op : Operator} {C : Int → Int → Prop} {g : Int → Int → Int} {e1 e2 : Expr} {x y : Int} (ho : OpR X (binaryOp op) (rI C fun i j => .int (g i j))) (h1 : XE X b e1 Γ la x) (h2 : XE X b e2 Γ lb y) (hc : C x y) :
    XE X b (.BinOp e1 op e2 pos) Γ lc (g x y) := xe_op ho h1 h2 fun F H v w Q fz d1 d2 k => ⟨x, y, dp_int d1, dp_int d2, hc, k _ F H (Grow.rf fz.h) (.int _)⟩
theorem xe_opI0 {op : Operator} {g : Int → Int → Int} {e1 e2 : Expr} {x y : Int} (ho : OpR X (binaryOp op) (rI0 fun i j => .int (g i j))) (h1 : XE X b e1 Γ la x) (h2 : XE X b e2 Γ lb y) :
    XE X b (.BinOp e1 op e2 pos) Γ lc (g x y) := xe_op ho h1 h2 fun F H v w Q fz d1 d2 k => ⟨x, y, dp_int d1, dp_int d2, k _ F H (Grow.rf fz.h) (.int _)⟩
variable {e1 e2 e3 : Expr} {x y z : Int}
theorem xe_add (h1 : XE X b e1 Γ la x) (h2 : XE X b e2 Γ lb y) : XE X b (.BinOp e1 .Add e2 pos) Γ lc (x + y) := xe_opI0 op_add h1 h2
theorem xe_subI (h1 : XE X b e1 Γ la x) (h2 : XE X b e2 Γ lb y) : XE X b (.BinOp e1 .Sub e2 pos) Γ lc (x - y) := xe_opI0 op_sub h1 h2
/-- * of factors of together less than 2 ^ 27 bits -/
def MulOk (i j : Int) : Prop := i.natAbs.log2 + j.natAbs.log2 < 100000000
theorem MulOk.ok {i j : Int} (h : MulOk i j) : IntMulOk i j := by
  have bd : ∀ x : Int, Builtin.Int.intBits x ≤ x.natAbs.log2 + 1 := fun x => by
    unfold Builtin.Int.intBits
    split <;> omega
  have h1 := bd i
  have h2 := bd j
  have h3 : i.natAbs.log2 + j.natAbs.log2 < 100000000 := h
  have e : bitsLine = 134217728 := by decide
  unfold IntMulOk
  intro z
  rw [Bool.and_eq_true] at z
  have z2 := z.2
  unfold Builtin.Int.intTooBig at z2
  have z3 := of_decide_eq_true z2
  rw [e] at z3
  omega
theorem op_mulB : OpR X (binaryOp .Mult) (rI MulOk fun i j => .int (i * j)) := opI fun _ _ _ _ _ _ _ hc q => PyProof.Rows.mul_int q hc.ok
theorem xe_mul (h1 : XE X b e1 Γ la x) (h2 : XE X b e2 Γ lb y) (hc : MulOk x y) : XE X b (.BinOp e1 .Mult e2 pos) Γ lc (x * y) := xe_opI op_mulB h1 h2 hc
theorem xe_fdiv (h1 : XE X b e1 Γ la x) (h2 : XE X b e2 Γ lb y) (hc : CDivW x y) : XE X b (.BinOp e1 .FloorDiv e2 pos) Γ lc (x / y) := xe_opI op_fdivW h1 h2 hc
theorem xe_mod (h1 : XE X b e1 Γ la x) (h2 : XE X b e2 Γ lb y) (hc : 0 < y) : XE X b (.BinOp e1 .Mod e2 pos) Γ lc (x % y) := xe_opI op_mod h1 h2 hc
theorem xe_pow (h1 : XE X b e1 Γ la x) (h2 : XE X b e2 Γ lb y) (hc : CPow x y) : XE X b (.BinOp e1 .Pow e2 pos) Γ lc (x ^ y.toNat) := xe_opI op_pow h1 h2 hc
theorem xe_shl (h1 : XE X b e1 Γ la x) (h2 : XE X b e2 Γ lb y) (hc : CPow x y) : XE X b (.BinOp e1 .LShift e2 pos) Γ lc (x * 2 ^ y.toNat) := xe_opI (g := fun i j => i * 2 ^ j.toNat) op_shl h1 h2 hc
theorem xe_shr (h1 : XE X b e1 Γ la x) (h2 : XE X b e2 Γ lb y) (hc : 0 ≤ y) : XE X b (.BinOp e1 .RShift e2 pos) Γ lc (x / 2 ^ y.toNat) := xe_opI (g := fun i j => i / 2 ^ j.toNat) op_shr h1 h2 hc
theorem xe_and (h1 : XE X b e1 Γ la x) (h2 : XE X b e2 Γ lb y) : XE X b (.BinOp e1 .BitAnd e2 pos) Γ lc (Builtin.bitAnd x y) := xe_opI0 op_and h1 h2
theorem xe_neg (h1 : XE X b e1 Γ la x) : XE X b (.UnaryOp .USub e1 pos) Γ lc (-x) :=
  PE.wk (pe_un un_neg h1) fun σ H Q ⟨F, ok, k⟩ => ⟨F, ok, fun v F1 H1 g1 d1 => ⟨x, dp_int d1, k _ F1 H1 g1 (.int _)⟩⟩

/-! ### comparisons -/
def CmpV (X : Cx) (b : Bs) (op : CmpOp) (la lb : Lv) (dx dy : PyData) (c : Bool) : Prop := ∃ r : R2, OpR X (compareOp op) r ∧
  ∀ F H v w (Q : VK), Frz b F H → Dq (sel b F H la) v dx → Dq (sel b F H lb) w dy → Q (.bl c) H → r v w H Q
variable {op op' : CmpOp} {α β γ : Type} [Py α] [Py β] [Py γ] {p : α} {q : β} {r : γ} {c c' : Bool}
theorem xe_cmp (cv : CmpV X b op la lb (Py.enc p) (Py.enc q) c) (h1 : XE X b e1 Γ la p) (h2 : XE X b e2 Γ lb q) (hm : behindInMarks op e2 = false) : XE X b (.Compare e1 [op] [e2] pos) Γ lc c := by
  obtain ⟨r, ho, hr⟩ := cv
  exact PE.wk (pe_cmpR ho h1 h2 hm) fun σ H Q ⟨F, ok, k⟩ => ⟨F, ok, fun v F1 H1 g1 d1 => ⟨F1, ok.gr g1, fun w F2 H2 g2 d2 =>
    hr F2 H2 v w _ ((ok.gr g1).gr g2).fr (dq_mo (sel_mo g2 _) _ _ d1) d2 (k _ F2 H2 (g1.tr g2) (.bl _))⟩⟩
theorem xt_cmp (cv : CmpV X b op la lb (Py.enc p) (Py.enc q) c) (h1 : XE X b e1 Γ la p) (h2 : XE X b e2 Γ lb q) (hm : behindInMarks op e2 = false) : XT X b (.Compare e1 [op] [e2] pos) Γ c := by
  obtain ⟨r, ho, hr⟩ := cv
  exact PT.wk (pt_cmpR ho h1 h2 hm) fun σ H Q ⟨F, ok, k⟩ => ⟨F, ok, fun v F1 H1 g1 d1 => ⟨F1, ok.gr g1, fun w F2 H2 g2 d2 =>
    hr F2 H2 v w _ ((ok.gr g1).gr g2).fr (dq_mo (sel_mo g2 _) _ _ d1) d2 ⟨c, rfl, k F2 H2 (g1.tr g2)⟩⟩⟩
theorem xe_chain (cv : CmpV X b op la lb (Py.enc p) (Py.enc q) c) (cv' : CmpV X b op' lb lv (Py.enc q) (Py.enc r) c') (h1 : XE X b e1 Γ la p) (h2 : XE X b e2 Γ lb q) (h3 : XE X b e3 Γ lv r) (hm : lastMarks [op, op'] [e2, e3] = false) :
    XE X b (.Compare e1 [op, op'] [e2, e3] pos) Γ lc (c && c') := by
  obtain ⟨r, ho, hr⟩ := cv
  obtain ⟨r', ho', hr'⟩ := cv'
  exact PE.wk (pe_chain ho ho' h1 h2 h3 hm) fun σ H Q ⟨F, ok, k⟩ => ⟨F, ok, fun v F1 H1 g1 d1 => ⟨F1, ok.gr g1, fun w F2 H2 g2 d2 =>
    hr F2 H2 v w _ ((ok.gr g1).gr g2).fr (dq_mo (sel_mo g2 _) _ _ d1) d2 ⟨c, rfl, by
      cases c with
      | false => exact iteF (k _ F2 H2 (g1.tr g2) (.bl _))
      | true => exact iteT ⟨F2, (ok.gr g1).gr g2, fun u F3 H3 g3 d3 => hr' F3 H3 w u _ (((ok.gr g1).gr g2).gr g3).fr (dq_mo (sel_mo g3 _) _ _ d2) d3 (k _ F3 H3 ((g1.tr g2).tr g3) (.bl _))⟩⟩⟩⟩
theorem xt_chain (cv : CmpV X b op la lb (Py.enc p) (Py.enc q) c) (cv' : CmpV X b op' lb lv (Py.enc q) (Py.enc r) c') (h1 : XE X b e1 Γ la p) (h2 : XE X b e2 Γ lb q) (h3 : XE X b e3 Γ lv r) (hm : lastMarks [op, op'] [e2, e3] = false) :
    XT X b (.Compare e1 [op, op'] [e2, e3] pos) Γ (c && c') := by
  obtain ⟨r, ho, hr⟩ := cv
  obtain ⟨r', ho', hr'⟩ := cv'
  exact PT.wk (pt_chain ho ho' h1 h2 h3 hm) fun σ H Q ⟨F, ok, k⟩ => ⟨F, ok, fun v F1 H1 g1 d1 => ⟨F1, ok.gr g1, fun w F2 H2 g2 d2 =>
    hr F2 H2 v w _ ((ok.gr g1).gr g2).fr (dq_mo (sel_mo g2 _) _ _ d1) d2 ⟨c, rfl, by
      cases c with
      | false => exact iteF ⟨false, rfl, k F2 H2 (g1.tr g2)⟩
      | true => exact iteT ⟨F2, (ok.gr g1).gr g2, fun u F3 H3 g3 d3 => hr' F3 H3 w u _ (((ok.gr g1).gr g2).gr g3).fr (dq_mo (sel_mo g3 _) _ _ d2) d3 ⟨_, rfl, k F3 H3 ((g1.tr g2).tr g3)⟩⟩⟩⟩⟩
theorem cv_lt : CmpV X b .Lt la lb (Py.enc x) (Py.enc y) (decide (x < y)) := ⟨_, op_lt, fun F H v w Q fz d1 d2 k => ⟨x, y, dp_int d1, dp_int d2, k⟩⟩
theorem cv_le : CmpV X b .LtE la lb (Py.enc x) (Py.enc y) (decide (x ≤ y)) := ⟨_, op_le, fun F H v w Q fz d1 d2 k => ⟨x, y, dp_int d1, dp_int d2, k⟩⟩
theorem cv_gt : CmpV X b .Gt la lb (Py.enc x) (Py.enc y) (decide (x > y)) := ⟨_, op_gt, fun F H v w Q fz d1 d2 k => ⟨x, y, dp_int d1, dp_int d2, k⟩⟩
theorem cv_ge : CmpV X b .GtE la lb (Py.enc x) (Py.enc y) (decide (x ≥ y)) := ⟨_, op_ge, fun F H v w Q fz d1 d2 k => ⟨x, y, dp_int d1, dp_int d2, k⟩⟩
theorem cv_eqS {s t : Str} : CmpV X b .Eq la lb (Py.enc s) (Py.enc t) (decide (s = t)) := ⟨_, op_eq, fun F H v w Q fz d1 d2 k => by
  rw [dp_str d1, dp_str d2]
  exact ⟨rfl, by rw [dec_str]; rw [Bool.beq_eq_decide_eq]; exact k⟩⟩
theorem cv_neS {s t : Str} : CmpV X b .NotEq la lb (Py.enc s) (Py.enc t) (!decide (s = t)) := ⟨_, op_ne, fun F H v w Q fz d1 d2 k => by
  rw [dp_str d1, dp_str d2]
  exact ⟨rfl, by rw [dec_str]; rw [Bool.beq_eq_decide_eq]; exact k⟩⟩
/-- == and != of data of one kind -/
theorem cv_eq (cf : Cf X N sc mg W) [DecidableEq α] [PyE α] {n : Nat} [Sh α n] {s t : α} (hn : Nat.ble n 64 = true := by rfl) : CmpV X b .Eq la lb (Py.enc s) (Py.enc t) (decide (s = t)) :=
  ⟨_, op_eqD (Nat.lt_of_le_of_lt (by omega) cf.un), fun F H v w Q fz d1 d2 k => ⟨_, _, dq_dp _ _ (Sh.lay s) (dq_mo (sel_le fz.h _) _ _ d1), dq_dp _ _ (Sh.lay t) (dq_mo (sel_le fz.h _) _ _ d2), shp s (Nat.le_of_ble_eq_true hn), shp t (Nat.le_of_ble_eq_true hn), by rw [PyE.eq]; exact k⟩⟩
theorem cv_ne (cf : Cf X N sc mg W) [DecidableEq α] [PyE α] {n : Nat} [Sh α n] {s t : α} (hn : Nat.ble n 64 = true := by rfl) : CmpV X b .NotEq la lb (Py.enc s) (Py.enc t) (!decide (s = t)) :=
  ⟨_, op_neD (Nat.lt_of_le_of_lt (by omega) cf.un), fun F H v w Q fz d1 d2 k => ⟨_, _, dq_dp _ _ (Sh.lay s) (dq_mo (sel_le fz.h _) _ _ d1), dq_dp _ _ (Sh.lay t) (dq_mo (sel_le fz.h _) _ _ d2), shp s (Nat.le_of_ble_eq_true hn), shp t (Nat.le_of_ble_eq_true hn), by rw [PyE.eq]; exact k⟩⟩
theorem any_in [DecidableEq α] [PyE α] (s : α) : ∀ xs : List α, (xs.map Py.enc).any (fun z => PyData.eqv z (Py.enc s)) = memB s xs
  | [] => by simp [memB]
  | x :: xs => by
    rw [List.map_cons, List.any_cons, any_in s xs, PyE.eq]
    by_cases h : x = s
    · subst h; simp [memB]
    · have h2 : ¬ s = x := fun q => h q.symm
      by_cases h' : s ∈ xs <;> simp [h, h', h2, memB]
theorem cv_in (cf : Cf X N sc mg W) [DecidableEq α] [PyE α] {n : Nat} [Sh α n] {s : α} {xs : List α} (hn : Nat.ble (n + 1) 64 = true := by rfl) : CmpV X b .In la lb (Py.enc s) (Py.enc xs) (memB s xs) :=
  ⟨_, op_inD cf.un, fun F H v w Q fz d1 d2 k => ⟨_, _, dq_dp _ _ (Sh.lay s) (dq_mo (sel_le fz.h _) _ _ d1), dq_dp _ _ (Sh.lay xs) (dq_mo (sel_le fz.h _) _ _ d2), shp s (Nat.le_trans (Nat.le_succ _) (Nat.le_of_ble_eq_true hn)), shp xs (Nat.le_of_ble_eq_true hn), by rw [any_in]; exact k⟩⟩
theorem cv_ni (cf : Cf X N sc mg W) [DecidableEq α] [PyE α] {n : Nat} [Sh α n] {s : α} {xs : List α} (hn : Nat.ble (n + 1) 64 = true := by rfl) : CmpV X b .NotIn la lb (Py.enc s) (Py.enc xs) (!memB s xs) :=
  ⟨_, op_notInD cf.un, fun F H v w Q fz d1 d2 k => ⟨_, _, dq_dp _ _ (Sh.lay s) (dq_mo (sel_le fz.h _) _ _ d1), dq_dp _ _ (Sh.lay xs) (dq_mo (sel_le fz.h _) _ _ d2), shp s (Nat.le_trans (Nat.le_succ _) (Nat.le_of_ble_eq_true hn)), shp xs (Nat.le_of_ble_eq_true hn), by rw [any_in]; exact k⟩⟩
/-- in a tuple of things of one kind -/
def rInT (K : PySem.W.Frag) : R2 := fun x y H Q => ∃ d ds, Dp K H x d ∧ Dp K H y (.tuple ds) ∧ SeqAt.shaped d = true ∧ SeqAt.shaped (.tuple ds) = true ∧ Q (.bl (ds.any fun z => PyData.eqv z d)) H
def rNiT (K : PySem.W.Frag) : R2 := fun x y H Q => ∃ d ds, Dp K H x d ∧ Dp K H y (.tuple ds) ∧ SeqAt.shaped d = true ∧ SeqAt.shaped (.tuple ds) = true ∧ Q (.bl (!ds.any fun z => PyData.eqv z d)) H
theorem op_inT (hu : X.A.units + 65 < cLine) : OpR X (compareOp .In) (rInT X.K) := by
  intro pins s σ H x y v u Q I rx ry h
  obtain ⟨d, ds, hd, he, sd, se, q⟩ := h
  obtain ⟨as, r1⟩ := Dp.reads I d x v hd rx
  obtain ⟨bs, r2⟩ := Dp.reads I (.tuple ds) y u he ry
  exact SeqAt.in_tuple_reads r2 r1 (SeqAt.canLay_of_shaped se) (SeqAt.canLay_of_shaped sd) (room_in_shaped sd hu) ⟨.bl _, H, I, rfl, q⟩
theorem op_niT (hu : X.A.units + 65 < cLine) : OpR X (compareOp .NotIn) (rNiT X.K) := by
  intro pins s σ H x y v u Q I rx ry h
  obtain ⟨d, ds, hd, he, sd, se, q⟩ := h
  obtain ⟨as, r1⟩ := Dp.reads I d x v hd rx
  obtain ⟨bs, r2⟩ := Dp.reads I (.tuple ds) y u he ry
  exact SeqAt.notIn_tuple_reads r2 r1 (SeqAt.canLay_of_shaped se) (SeqAt.canLay_of_shaped sd) (room_in_shaped sd hu) ⟨.bl _, H, I, rfl, q⟩
theorem cv_inT (cf : Cf X N sc mg W) [DecidableEq α] [PyE α] {n : Nat} [Sh α n] {s : α} {xs : List α} (hn : Nat.ble (n + 1) 64 = true := by rfl) : CmpV X b .In la lb (Py.enc s) (Py.enc (VT.mk xs)) (memB s xs) :=
  ⟨_, op_inT cf.un, fun F H v w Q fz d1 d2 k => ⟨_, xs.map Py.enc, dq_dp _ _ (Sh.lay s) (dq_mo (sel_le fz.h _) _ _ d1), dq_dp _ _ (Sh.lay (VT.mk xs)) (dq_mo (sel_le fz.h _) _ _ d2), shp s (Nat.le_trans (Nat.le_succ _) (Nat.le_of_ble_eq_true hn)), shp (VT.mk xs) (Nat.le_of_ble_eq_true hn), by rw [any_in]; exact k⟩⟩
theorem cv_niT (cf : Cf X N sc mg W) [DecidableEq α] [PyE α] {n : Nat} [Sh α n] {s : α} {xs : List α} (hn : Nat.ble (n + 1) 64 = true := by rfl) : CmpV X b .NotIn la lb (Py.enc s) (Py.enc (VT.mk xs)) (!memB s xs) :=
  ⟨_, op_niT cf.un, fun F H v w Q fz d1 d2 k => ⟨_, xs.map Py.enc, dq_dp _ _ (Sh.lay s) (dq_mo (sel_le fz.h _) _ _ d1), dq_dp _ _ (Sh.lay (VT.mk xs)) (dq_mo (sel_le fz.h _) _ _ d2), shp s (Nat.le_trans (Nat.le_succ _) (Nat.le_of_ble_eq_true hn)), shp (VT.mk xs) (Nat.le_of_ble_eq_true hn), by rw [any_in]; exact k⟩⟩

/-! ### tests -/
variable {c1 c2 : Bool}
theorem xt_val {e : Expr} (h : XE X b e Γ lv c) (he : ∀ whole, isTrue e X.env whole = (do let v ← whole; standAt e.pos; holding [v] (truthy v))) : XT X b e Γ c :=
  PT.wk (pt_val h he) fun σ H Q ⟨F, ok, k⟩ => ⟨F, ok, fun v F1 H1 g1 d1 => ⟨c, dp_bl d1, k F1 H1 g1⟩⟩
theorem xt_not {e : Expr} (h : XT X b e Γ c) : XT X b (.UnaryOp .Not e pos) Γ (!c) :=
  PT.wk (pt_not h) fun σ H Q ⟨F, ok, k⟩ => ⟨F, ok, fun F1 H1 g1 => k F1 H1 g1⟩
theorem xt_w {e : Expr} (h : XW X b e Γ c) : XT X b e Γ c := h.pt
theorem xw_and1 {e : Expr} (h : XT X b e Γ c) : XW X b (.BoolOp .And [e] pos) Γ c := pw_and1 h
theorem xw_or1 {e : Expr} (h : XT X b e Γ c) : XW X b (.BoolOp .Or [e] pos) Γ c := pw_or1 h
theorem xw_and {rest : List Expr} (h1 : XT X b e1 Γ c1) (h2 : c1 = true → XW X b (.BoolOp .And (e2 :: rest) pos) Γ c2) : XW X b (.BoolOp .And (e1 :: e2 :: rest) pos) Γ (c1 && c2) := by
  cases c1 with
  | true => exact PW.wk (pw_and h1 (h2 rfl)) fun σ H Q ⟨F, ok, k⟩ => ⟨F, ok, fun F1 H1 g1 => iteT ⟨F1, ok.gr g1, fun F2 H2 g2 => k F2 H2 (g1.tr g2)⟩⟩
  | false => exact PW.wk (pw_and (tB' := fun _ _ _ => False) h1 ⟨fun _ _ _ _ _ _ _ z => z.elim⟩) fun σ H Q ⟨F, ok, k⟩ => ⟨F, ok, fun F1 H1 g1 => iteF (k F1 H1 g1)⟩
theorem xw_or {rest : List Expr} (h1 : XT X b e1 Γ c1) (h2 : c1 = false → XW X b (.BoolOp .Or (e2 :: rest) pos) Γ c2) : XW X b (.BoolOp .Or (e1 :: e2 :: rest) pos) Γ (c1 || c2) := by
  cases c1 with
  | false => exact PW.wk (pw_or h1 (h2 rfl)) fun σ H Q ⟨F, ok, k⟩ => ⟨F, ok, fun F1 H1 g1 => iteF ⟨F1, ok.gr g1, fun F2 H2 g2 => k F2 H2 (g1.tr g2)⟩⟩
  | true => exact PW.wk (pw_or (tB' := fun _ _ _ => False) h1 ⟨fun _ _ _ _ _ _ _ z => z.elim⟩) fun σ H Q ⟨F, ok, k⟩ => ⟨F, ok, fun F1 H1 g1 => iteT (k F1 H1 g1)⟩
/-- .. as values -/
theorem xe_one {op} {e : Expr} (h : XE X b e Γ lv c) : XE X b (.BoolOp op [e] pos) Γ lv c := pe_one h
theorem xe_andB {rest : List Expr} (h1 : XE X b e1 Γ la c1) (h2 : c1 = true → XE X b (.BoolOp .And (e2 :: rest) pos) Γ lc c2) : XE X b (.BoolOp .And (e1 :: e2 :: rest) pos) Γ lc (c1 && c2) := by
  cases c1 with
  | true => exact PE.wk (pe_and h1 (h2 rfl)) fun σ H Q ⟨F, ok, k⟩ => ⟨F, ok, fun v F1 H1 g1 d1 => ⟨true, dp_bl d1, iteT ⟨F1, ok.gr g1, fun u F2 H2 g2 d2 => k u F2 H2 (g1.tr g2) d2⟩⟩⟩
  | false => exact PE.wk (pe_and (tb := fun _ _ _ => False) h1 ⟨fun _ _ _ _ _ _ z => z.elim⟩) fun σ H Q ⟨F, ok, k⟩ => ⟨F, ok, fun v F1 H1 g1 d1 => ⟨false, dp_bl d1, iteF (k _ F1 H1 g1 (.bl _))⟩⟩
theorem xe_orB {rest : List Expr} (h1 : XE X b e1 Γ la c1) (h2 : c1 = false → XE X b (.BoolOp .Or (e2 :: rest) pos) Γ lc c2) : XE X b (.BoolOp .Or (e1 :: e2 :: rest) pos) Γ lc (c1 || c2) := by
  cases c1 with
  | false => exact PE.wk (pe_or h1 (h2 rfl)) fun σ H Q ⟨F, ok, k⟩ => ⟨F, ok, fun v F1 H1 g1 d1 => ⟨false, dp_bl d1, iteF ⟨F1, ok.gr g1, fun u F2 H2 g2 d2 => k u F2 H2 (g1.tr g2) d2⟩⟩⟩
  | true => exact PE.wk (pe_or (tb := fun _ _ _ => False) h1 ⟨fun _ _ _ _ _ _ z => z.elim⟩) fun σ H Q ⟨F, ok, k⟩ => ⟨F, ok, fun v F1 H1 g1 d1 => ⟨true, dp_bl d1, iteT (k _ F1 H1 g1 (.bl _))⟩⟩
theorem xe_notB {e : Expr} (h : XE X b e Γ la c) : XE X b (.UnaryOp .Not e pos) Γ lc (!c) :=
  PE.wk (pe_not h) fun σ H Q ⟨F, ok, k⟩ => ⟨F, ok, fun v F1 H1 g1 d1 => ⟨c, dp_bl d1, k _ F1 H1 g1 (.bl _)⟩⟩
/-- a if t else b -/
theorem xe_if {t : Expr} {p p' : α} (h : XT X b t Γ c) (h1 : c = true → XE X b e1 Γ lv p) (h2 : c = false → XE X b e2 Γ lv p') : XE X b (.IfExp t e1 e2 pos) Γ lv (cond c p p') := by
  cases c with
  | true => exact PE.wk (pe_ifExp (tb := fun _ _ _ => False) h (h1 rfl) ⟨fun _ _ _ _ _ _ z => z.elim⟩) fun σ H Q ⟨F, ok, k⟩ => ⟨F, ok, fun F1 H1 g1 => iteT ⟨F1, ok.gr g1, fun u F2 H2 g2 d2 => k u F2 H2 (g1.tr g2) d2⟩⟩
  | false => exact PE.wk (pe_ifExp (ta := fun _ _ _ => False) h ⟨fun _ _ _ _ _ _ z => z.elim⟩ (h2 rfl)) fun σ H Q ⟨F, ok, k⟩ => ⟨F, ok, fun F1 H1 g1 => iteF ⟨F1, ok.gr g1, fun u F2 H2 g2 d2 => k u F2 H2 (g1.tr g2) d2⟩⟩
end
end Zk

namespace Zk
open PySem PySem.Spec PyProof.Rows L2

theorem line_of {n : Nat} (h : Nat.ble n 1000 = true) : n ≤ sizeLine := Nat.le_trans (Nat.le_of_ble_eq_true h) (by decide)
theorem sel_new {b : Bs} {F H : Hp} (fz : Frz b F H) {p : Addr} {o : HO} (h : H p = none) (ho : nofrz (some o) = some o := by rfl) : ∀ lv, sel b (upd F p o) (upd H p o) lv p = some o
  | .bor => upd_same
  | .st k => sel2_new fz h k ho
theorem dql_all {b : Bs} {F H : Hp} {lv : Lv} : ∀ {vs : List V} {ds : List PyData}, DqL b F H vs (ds.map fun d => (lv, d)) → DqAll (sel b F H lv) vs ds
  | _, [], h => by cases h; exact .nil
  | _, d :: ds, h => by cases h with | cons a r => exact .cons a (dql_all r)
/-- a new list, a new tuple of such things -/
theorem new_lst {b : Bs} {F H : Hp} {lv : Lv} {vs : List V} {ds : List PyData} {Q : VK} {p : Addr} (fz : Frz b F H) (h : DqAll (sel b F H lv) vs ds) (hz : vs.length ≤ sizeLine) (hp : H p = none)
    (k : ∀ v F' H', Grow F H F' H' → Dq (sel b F' H' lv) v (.list ds) → Q v H') : Q (.ref p) (upd H p (.lst vs)) :=
  k _ _ _ (Grow.new fz.h hp) (.lst (.inl (sel_new fz hp rfl lv)) hz (dqa_mo (sel_mo (Grow.new fz.h hp) lv) _ _ h))
theorem new_tup {b : Bs} {F H : Hp} {lv : Lv} {vs : List V} {ds : List PyData} {Q : VK} {p : Addr} (fz : Frz b F H) (h : DqAll (sel b F H lv) vs ds) (hz : vs.length ≤ sizeLine) (hp : H p = none)
    (k : ∀ v F' H', Grow F H F' H' → Dq (sel b F' H' lv) v (.tuple ds) → Q v H') : Q (.ref p) (upd H p (.tup vs)) :=
  k _ _ _ (Grow.new fz.h hp) (.tup (.inl (sel_new fz hp rfl lv)) hz (dqa_mo (sel_mo (Grow.new fz.h hp) lv) _ _ h))
theorem rd_len {X : Cx} {pins : List (Addr × Obj)} {σ : L2.St} {H : Hp} {s : Shared} {a : Addr} {xs : List V} (I : Inv X pins σ H s) (h : Rd H a (.lst xs)) :
    ∃ (its : List Value) (n : Nat), Vals xs its ∧ xs.length = its.length ∧ xs.length ≤ sizeLine ∧ s.heap.get? a = some { cls := .type "list", data := .seq its.toArray n } := by
  obtain ⟨z, its, n, r, e⟩ := h.ok I.hok
  exact ⟨its, n, r, r.length, z, e⟩

section
variable {X : Cx} {b : Bs} {N : List Str} {sc : Scope} {mg : Str → Option Value} {W : Str → Bool} {Γ : List En} {lv la lb lc : Lv} {pos pos' : Pos} {e e1 e2 e3 : Expr} {es : List Expr}
variable {α β γ δ : Type} [Py α] [Py β] [Py γ] [Py δ] {p p' : α} {q : β} {r : γ} {t : δ}
/-! ### argument lists -/
theorem xa_nil : XA X b [] Γ [] := PA.wk pa_nil fun σ H Q ⟨F, ok, k⟩ => k _ F H (Grow.rf ok.fr.h) .nil
theorem xa_cons {ds : List (Lv × PyData)} (h : XE X b e Γ lv p) (hr : XA X b es Γ ds) (hs : starEach (e :: es) X.env = (false, eval e X.env) :: starEach es X.env := by rfl) : XA X b (e :: es) Γ ((lv, Py.enc p) :: ds) :=
  PA.wk (pa_cons h hr hs) fun σ H Q ⟨F, ok, k⟩ => ⟨F, ok, fun v F1 H1 g1 d1 => ⟨F1, ok.gr g1, fun vs F2 H2 g2 d2 => k _ F2 H2 (g1.tr g2) (.cons (dq_mo (sel_mo g2 _) _ _ d1) d2)⟩⟩
/-! ### displays -/
theorem xe_lst {xs : List α} (h : XA X b es Γ ((xs.map Py.enc).map fun d => (lv, d))) (hz : Nat.ble xs.length 1000 = true := by rfl) : XE X b (.List es pos) Γ lv xs :=
  PE.wk (pe_lst h) fun σ H Q ⟨F, ok, k⟩ => ⟨F, ok, fun vs F1 H1 g1 d1 => by
    have d2 := dql_all d1
    have hz' : vs.length ≤ sizeLine := by rw [dqa_len d2, List.length_map]; exact line_of hz
    exact ⟨hz', fun p hp => new_lst (ok.gr g1).fr d2 hz' hp fun v F' H' g d => k v F' H' (g1.tr g) d⟩⟩
theorem xe_tupD {n} {ds : List PyData} (h : XA X b es Γ (ds.map fun d => (lv, d))) (hp : Py.enc p = .tuple ds) (hz : Nat.ble ds.length 1000 = true := by rfl) : XE X b (.Tuple es n pos) Γ lv p :=
  PE.wk (pe_tup h) fun σ H Q ⟨F, ok, k⟩ => ⟨F, ok, fun vs F1 H1 g1 d1 => by
    have d2 := dql_all d1
    have hz' : vs.length ≤ sizeLine := by rw [dqa_len d2]; exact line_of hz
    exact ⟨hz', fun p hp' => new_tup (ok.gr g1).fr d2 hz' hp' fun v F' H' g d => k v F' H' (g1.tr g) (by rw [hp]; exact d)⟩⟩
theorem xe_t1 {n} (h1 : XE X b e1 Γ lv p) (hs1 : starEach [e1] X.env = [(false, eval e1 X.env)] := by rfl) : XE X b (.Tuple [e1] n pos) Γ lv (T1.mk p) :=
  xe_tupD (p := T1.mk p) (ds := [Py.enc p]) (xa_cons h1 xa_nil hs1) rfl
theorem xe_t2 {n} (h1 : XE X b e1 Γ lv p) (h2 : XE X b e2 Γ lv q) (hs1 : starEach [e1, e2] X.env = (false, eval e1 X.env) :: starEach [e2] X.env := by rfl) (hs2 : starEach [e2] X.env = [(false, eval e2 X.env)] := by rfl) : XE X b (.Tuple [e1, e2] n pos) Γ lv (p, q) :=
  xe_tupD (p := (p, q)) (ds := [Py.enc p, Py.enc q]) (xa_cons h1 (xa_cons h2 xa_nil hs2) hs1) rfl
theorem xe_t3 {n} (h1 : XE X b e1 Γ lv p) (h2 : XE X b e2 Γ lv q) (h3 : XE X b e3 Γ lv r) (hs1 : starEach [e1, e2, e3] X.env = (false, eval e1 X.env) :: starEach [e2, e3] X.env := by rfl) (hs2 : starEach [e2, e3] X.env = (false, eval e2 X.env) :: starEach [e3] X.env := by rfl) (hs3 : starEach [e3] X.env = [(false, eval e3 X.env)] := by rfl) : XE X b (.Tuple [e1, e2, e3] n pos) Γ lv (T3.mk p q r) :=
  xe_tupD (p := T3.mk p q r) (ds := [Py.enc p, Py.enc q, Py.enc r]) (xa_cons h1 (xa_cons h2 (xa_cons h3 xa_nil hs3) hs2) hs1) rfl

/-! ### subscripts -/
theorem ix_at {H : Hp} {vs : List V} {ds : List PyData} (h : DqAll H vs ds) {i : Int} {d : PyData} (ha : atI ds i = some d) : ∃ v, atI vs i = some v ∧ Dq H v d := by
  unfold atI at ha ⊢
  rw [dqa_len h]
  cases q : ixN ds.length i with
  | none => rw [q] at ha; cases ha
  | some j =>
    rw [q] at ha
    have ha' : ds[j]? = some d := ha
    obtain ⟨v, h1, h2⟩ := dqa_getd h ha'
    exact ⟨v, h1, h2⟩
theorem at_map {xs : List α} {i : Int} (ha : atI xs i = some p) : atI (xs.map Py.enc) i = some (Py.enc p) := by
  unfold atI at ha ⊢
  rw [List.length_map]
  cases q : ixN xs.length i with
  | none => rw [q] at ha; cases ha
  | some j =>
    rw [q] at ha
    have ha' : xs[j]? = some p := ha
    show (xs.map Py.enc)[j]? = some (Py.enc p)
    rw [List.getElem?_map, ha']
    rfl
theorem xe_ixL {xs : List α} {i : Int} (h1 : XE X b e1 Γ la xs) (h2 : XE X b e2 Γ lb i) (ha : atI xs i = some p) (hs : PlainIx e2) : XE X b (.Subscript e1 e2 pos) Γ la p :=
  PE.wk (pe_ix ix_list h1 h2 hs) fun σ H Q ⟨F, ok, k⟩ => ⟨F, ok, fun v F1 H1 g1 d1 => ⟨F1, ok.gr g1, fun w F2 H2 g2 d2 => by
    have fz := ((ok.gr g1).gr g2).fr
    obtain ⟨a, vs, rfl, hq, hzz, hall⟩ := dp_lst (dq_mo (sel_mo g2 _) _ _ d1)
    obtain ⟨u, hu, du⟩ := ix_at hall (at_map ha)
    exact ⟨a, vs, i, u, rfl, dp_int d2, .inl ((sel_le fz.h _).rd hq), hu, k u F2 H2 (g1.tr g2) du⟩⟩⟩
theorem xe_ixT {ds : List PyData} {i : Int} (h1 : XE X b e1 Γ la q) (hq : Py.enc q = .tuple ds) (h2 : XE X b e2 Γ lb i) (ha : atI ds i = some (Py.enc p)) (hs : PlainIx e2) : XE X b (.Subscript e1 e2 pos) Γ la p :=
  PE.wk (pe_ix ix_tup h1 h2 hs) fun σ H Q ⟨F, ok, k⟩ => ⟨F, ok, fun v F1 H1 g1 d1 => ⟨F1, ok.gr g1, fun w F2 H2 g2 d2 => by
    have fz := ((ok.gr g1).gr g2).fr
    rw [hq] at d1
    obtain ⟨a, vs, rfl, hq, hzz, hall⟩ := dp_tup (dq_mo (sel_mo g2 _) _ _ d1)
    obtain ⟨u, hu, du⟩ := ix_at hall ha
    exact ⟨a, vs, i, u, rfl, dp_int d2, .inl ((sel_le fz.h _).rd hq), hu, k u F2 H2 (g1.tr g2) du⟩⟩⟩
/-- the written places of pairs, triples -/
theorem xe_p0 {j pp} (h1 : XE X b e1 Γ la (p, q)) (hs : PlainIx (.Constant (.int 0) j pp)) : XE X b (.Subscript e1 (.Constant (.int 0) j pp) pos) Γ la p := xe_ixT (lb := .bor) h1 rfl xe_int rfl hs
theorem xe_p1 {j pp} (h1 : XE X b e1 Γ la (p, q)) (hs : PlainIx (.Constant (.int 1) j pp)) : XE X b (.Subscript e1 (.Constant (.int 1) j pp) pos) Γ la q := xe_ixT (lb := .bor) h1 rfl xe_int rfl hs
theorem xe_fst {s : α × β} {j pp} (h1 : XE X b e1 Γ la s) (hs : PlainIx (.Constant (.int 0) j pp)) : XE X b (.Subscript e1 (.Constant (.int 0) j pp) pos) Γ la s.1 := xe_ixT (lb := .bor) h1 rfl xe_int rfl hs
theorem xe_snd {s : α × β} {j pp} (h1 : XE X b e1 Γ la s) (hs : PlainIx (.Constant (.int 1) j pp)) : XE X b (.Subscript e1 (.Constant (.int 1) j pp) pos) Γ la s.2 := xe_ixT (lb := .bor) h1 rfl xe_int rfl hs

/-! ### slices of lists -/
def cutL {τ : Type} (xs : List τ) (lo hi : Option Int) : List τ := (xs.drop (HT.sIx xs.length 0 lo)).take (HT.sIx xs.length xs.length hi - HT.sIx xs.length 0 lo)
abbrev XO (X : Cx) (b : Bs) (oe : Option Expr) (Γ : List En) (o : Option Int) : Prop := PO X oe (fun σ H Q => ∃ F, EnvOk X.K b F H σ Γ ∧ ∀ F' H', Grow F H F' H' → Q o H')
theorem PO.wk {oe : Option Expr} {t t' : TO} (h : PO X oe t) (w : ∀ σ H Q, t' σ H Q → t σ H Q) : PO X oe t' := ⟨fun pins s σ H Q I q => h.run pins s σ H Q I (w σ H Q q)⟩
theorem xo_none : XO X b none Γ none := PO.wk po_none fun σ H Q ⟨F, ok, k⟩ => k F H (Grow.rf ok.fr.h)
theorem xo_some {i : Int} (h : XE X b e Γ la i) : XO X b (some e) Γ (some i) := PO.wk (po_some h) fun σ H Q ⟨F, ok, k⟩ => ⟨F, ok, fun v F1 H1 g1 d1 => ⟨i, dp_int d1, k F1 H1 g1⟩⟩
theorem xe_sl {xs : List α} {lo hi : Option Expr} {l h : Option Int} (h1 : XE X b e1 Γ la xs) (h2 : XO X b lo Γ l) (h3 : XO X b hi Γ h) : XE X b (.Subscript e1 (.Slice lo hi none pos') pos) Γ la (cutL xs l h) :=
  PE.wk (pe_slice sl_list h1 h2 h3) fun σ H Q ⟨F, ok, k⟩ => ⟨F, ok, fun v F1 H1 g1 d1 => ⟨F1, ok.gr g1, fun F2 H2 g2 => ⟨F2, (ok.gr g1).gr g2, fun F3 H3 g3 => by
    have fz := (((ok.gr g1).gr g2).gr g3).fr
    obtain ⟨a, vs, rfl, hq, hzz, hall⟩ := dp_lst (dq_mo (sel_mo (g2.tr g3) _) _ _ d1)
    refine ⟨a, vs, rfl, .inl ((sel_le fz.h _).rd hq), fun p hp => ?_⟩
    have hl : vs.length = xs.length := by rw [dqa_len hall, List.length_map]
    have e : cutV vs l h = (vs.drop (HT.sIx xs.length 0 l)).take (HT.sIx xs.length xs.length h - HT.sIx xs.length 0 l) := by unfold cutV; rw [hl]
    rw [e]
    refine new_lst (ds := (cutL xs l h).map Py.enc) fz ?_ (by simp only [List.length_take, List.length_drop]; omega) hp fun v F' H' g d => k v F' H' (((g1.tr g2).tr g3).tr g) d
    unfold cutL
    rw [List.map_take, List.map_drop]
    exact dqa_take _ (dqa_drop _ hall)⟩⟩⟩
/-- xs[::-1] -/
theorem xe_rev {xs : List α} {k : Nat} {p1 p2 p3 : Pos} (h1 : XE X b e1 Γ la xs) : XE X b (.Subscript e1 (.Slice none none (some (.UnaryOp .USub (.Constant (.int 1) k p1) p2)) p3) pos) Γ la xs.reverse :=
  PE.wk (pe_revL h1) fun σ H Q ⟨F, ok, k⟩ => ⟨F, ok, fun v F1 H1 g1 d1 => by
    have fz := (ok.gr g1).fr
    obtain ⟨a, vs, rfl, hq, hzz, hall⟩ := dp_lst d1
    refine ⟨a, vs, rfl, .inl ((sel_le fz.h _).rd hq), fun p hp => ?_⟩
    refine new_lst (ds := xs.reverse.map Py.enc) fz ?_ (by rw [List.length_reverse]; exact hzz) hp fun v F' H' g d => k v F' H' (g1.tr g) d
    rw [List.map_reverse]
    exact dqa_rev hall⟩
/-! ### list + list -/
def rCatS : R2 := fun x y H Q => ∃ l b xs zs, x = .ref l ∧ y = .ref b ∧ Rd H l (.lst xs) ∧ Rd H b (.lst zs) ∧ xs.length + zs.length ≤ sizeLine ∧ ∀ p, H p = none → Q (.ref p) (upd H p (.lst (xs ++ zs)))
theorem op_catS : OpR X (binaryOp .Add) rCatS := by
  intro pins s σ H x y v u Q I rx ry h
  obtain ⟨l, b, xs, zs, rfl, rfl, hH, hB, hz, q⟩ := h
  cases rx
  cases ry
  obtain ⟨its, n, r, hl, z, e⟩ := rd_len I hH
  obtain ⟨its2, n2, r2, hl2, z2, e2⟩ := rd_len I hB
  refine PySem.P.add_list e e2 ?_ (by rw [List.size_toArray, List.size_toArray]; omega)
  have ea : its.toArray ++ its2.toArray = (its ++ its2).toArray := by simp
  rw [ea]
  exact ⟨.ref _, _, I.lnew (t' := s.toks) (r.append r2) (by rw [List.length_append]; omega), rfl, q _ I.fresh⟩
theorem xe_cat {xs ys : List α} (h1 : XE X b e1 Γ lv xs) (h2 : XE X b e2 Γ lv ys) (hz : xs.length + ys.length ≤ 1000000) : XE X b (.BinOp e1 .Add e2 pos) Γ lv (xs ++ ys) :=
  xe_op op_catS h1 h2 fun F H v w Q fz d1 d2 k => by
    obtain ⟨a, vs, rfl, hq, hzz, hall⟩ := dp_lst d1
    obtain ⟨a2, vs2, rfl, hq2, hzz2, hall2⟩ := dp_lst d2
    have l1 : vs.length = xs.length := by rw [dqa_len hall, List.length_map]
    have l2 : vs2.length = ys.length := by rw [dqa_len hall2, List.length_map]
    refine ⟨a, a2, vs, vs2, rfl, rfl, (sel_le fz.h _).rd hq, (sel_le fz.h _).rd hq2, Nat.le_trans (by omega) (show 1000000 ≤ sizeLine by decide), fun p hp => ?_⟩
    refine new_lst (ds := (xs ++ ys).map Py.enc) fz ?_ (by rw [List.length_append]; exact Nat.le_trans (by omega) (show 1000000 ≤ sizeLine by decide)) hp k
    rw [List.map_append]
    exact dqa_app hall hall2

/-! ### calls of built-ins -/
def CalV (X : Cx) (b : Bs) (f : Value) (ds : List (Lv × PyData)) (lc : Lv) (d : PyData) : Prop := ∃ r, CallR X f r ∧
  ∀ F H vs (Q : VK), Frz b F H → DqL b F H vs ds → (∀ v F' H', Grow F H F' H' → Dq (sel b F' H' lc) v d → Q v H') → r vs H Q
variable {x : Str} {pp : Pos} {bid : String} {ds : List (Lv × PyData)}
theorem xe_callB (c : Cf X N sc mg W) (cv : CalV X b (.builtin bid) ds lc (Py.enc p)) (hg : sc.names.lookup x = some .globalImplicit) (hm : mg x = none) (hv : bootBuiltins x = some (.builtin bid)) (ha : XA X b (e :: es) Γ ds) (hn : x ≠ "__name__" := by decide) (hdb : (x == ("__debug__" : Str)) = false := by decide)
    (he : starEach (e :: es) X.env = (false, eval e X.env) :: starEach es X.env := by rfl) (hpl : (backTo pos (starEach es X.env)).any (·.1) = false := by rfl) : XE X b (.Call (.Name x pp) (e :: es) [] pos) Γ lc p := by
  obtain ⟨r, hr, h⟩ := cv
  exact PE.wk (pe_callB hr (show X.env.scope.names.lookup x = _ by rw [c.hs]; exact hg) (by rw [c.hm]; exact hm) hv ha hn hdb he hpl) fun σ H Q ⟨F, ok, k⟩ => ⟨F, ok, fun vs F1 H1 g1 d1 =>
    h F1 H1 vs Q (ok.gr g1).fr d1 fun v F' H' g d => k v F' H' (g1.tr g) d⟩
theorem xe_callTy (c : Cf X N sc mg W) (cv : CalV X b (.type bid) ds lc (Py.enc p)) (hg : sc.names.lookup x = some .globalImplicit) (hm : mg x = none) (hv : bootBuiltins x = some (.type bid)) (ha : XA X b (e :: es) Γ ds) (hn : x ≠ "__name__" := by decide) (hdb : (x == ("__debug__" : Str)) = false := by decide)
    (he : starEach (e :: es) X.env = (false, eval e X.env) :: starEach es X.env := by rfl) (hpl : (backTo pos (starEach es X.env)).any (·.1) = false := by rfl) : XE X b (.Call (.Name x pp) (e :: es) [] pos) Γ lc p := by
  obtain ⟨r, hr, h⟩ := cv
  exact PE.wk (pe_callTy hr (show X.env.scope.names.lookup x = _ by rw [c.hs]; exact hg) (by rw [c.hm]; exact hm) hv ha hn hdb he hpl) fun σ H Q ⟨F, ok, k⟩ => ⟨F, ok, fun vs F1 H1 g1 d1 =>
    h F1 H1 vs Q (ok.gr g1).fr d1 fun v F' H' g d => k v F' H' (g1.tr g) d⟩
theorem dql1 {F H : Hp} {vs : List V} {d : PyData} (h : DqL b F H vs [(la, d)]) : ∃ v, vs = [v] ∧ Dq (sel b F H la) v d := by
  cases h with | cons a r => cases r; exact ⟨_, rfl, a⟩
theorem dql2 {F H : Hp} {vs : List V} {d d' : PyData} (h : DqL b F H vs [(la, d), (lb, d')]) : ∃ v w, vs = [v, w] ∧ Dq (sel b F H la) v d ∧ Dq (sel b F H lb) w d' := by
  cases h with | cons a r => obtain ⟨w, rfl, d⟩ := dql1 r; exact ⟨_, w, rfl, a, d⟩
theorem dql3 {F H : Hp} {vs : List V} {d d' d2 : PyData} (h : DqL b F H vs [(la, d), (lb, d'), (lv, d2)]) : ∃ v w u, vs = [v, w, u] ∧ Dq (sel b F H la) v d ∧ Dq (sel b F H lb) w d' ∧ Dq (sel b F H lv) u d2 := by
  cases h with | cons a r => obtain ⟨w, u, rfl, d, d2⟩ := dql2 r; exact ⟨_, w, u, rfl, a, d, d2⟩
theorem rd_sel {F H : Hp} (fz : Frz b F H) {a : Addr} {u : HO} (h : Rd (sel b F H la) a u) : Rd H a u := (sel_le fz.h _).rd h
theorem cl_len {xs : List α} : CalV X b (.builtin "len") [(la, Py.enc xs)] lc (Py.enc (xs.length : Int)) := ⟨_, call_len_seq, fun F H vs Q fz h k => by
  obtain ⟨v, rfl, d⟩ := dql1 h
  obtain ⟨a, ws, rfl, hq, hzz, hall⟩ := dp_lst d
  refine ⟨a, ws, rfl, .inl (.inl (rd_sel fz hq)), k _ F H (Grow.rf fz.h) ?_⟩
  rw [dqa_len hall, List.length_map]
  exact .int _⟩
theorem cl_lenT {us : List PyData} (hp : Py.enc p = .tuple us) : CalV X b (.builtin "len") [(la, Py.enc p)] lc (Py.enc (us.length : Int)) := ⟨_, call_len_seq, fun F H vs Q fz h k => by
  obtain ⟨v, rfl, d⟩ := dql1 h
  rw [hp] at d
  obtain ⟨a, ws, rfl, hq, hzz, hall⟩ := dp_tup d
  refine ⟨a, ws, rfl, .inr (.inl (rd_sel fz hq)), k _ F H (Grow.rf fz.h) ?_⟩
  rw [dqa_len hall]
  exact .int _⟩
theorem dqa_ints {H : Hp} : ∀ {ns : List Int} {vs : List V}, DqAll H vs (ns.map Py.enc) → vs = ns.map V.int
  | [], _, h => by cases h; rfl
  | n :: ns, _, h => by cases h with | cons a r => rw [dqa_ints r, dp_int a]; rfl
theorem dqa_bls {H : Hp} : ∀ {ns : List Bool} {vs : List V}, DqAll H vs (ns.map Py.enc) → vs = ns.map V.bl
  | [], _, h => by cases h; rfl
  | n :: ns, _, h => by cases h with | cons a r => rw [dqa_bls r, dp_bl a]; rfl
theorem ints_dqa {H : Hp} : ∀ ns : List Int, DqAll H (ns.map V.int) (ns.map Py.enc)
  | [] => .nil
  | n :: ns => .cons (.int _) (ints_dqa ns)
theorem cl_sum (c : Cf X N sc mg W) {xs : List Int} : CalV X b (.builtin "sum") [(la, Py.enc xs)] lc (Py.enc xs.sum) := ⟨_, cr_sum c.calm, fun F H vs Q fz h k => by
  obtain ⟨v, rfl, d⟩ := dql1 h
  obtain ⟨a, ws, rfl, hq, hzz, hall⟩ := dp_lst d
  rw [dqa_ints hall] at hq
  exact ⟨a, xs, rfl, .inl (rd_sel fz hq), k _ F H (Grow.rf fz.h) (.int _)⟩⟩
theorem cl_all (c : Cf X N sc mg W) {xs : List Bool} : CalV X b (.builtin "all") [(la, Py.enc xs)] lc (Py.enc (xs.all id)) := ⟨_, cr_all c.calm, fun F H vs Q fz h k => by
  obtain ⟨v, rfl, d⟩ := dql1 h
  obtain ⟨a, ws, rfl, hq, hzz, hall⟩ := dp_lst d
  rw [dqa_bls hall] at hq
  exact ⟨a, xs, rfl, .inl (rd_sel fz hq), k _ F H (Grow.rf fz.h) (.bl _)⟩⟩
theorem cl_any (c : Cf X N sc mg W) {xs : List Bool} : CalV X b (.builtin "any") [(la, Py.enc xs)] lc (Py.enc (xs.any id)) := ⟨_, cr_any c.calm, fun F H vs Q fz h k => by
  obtain ⟨v, rfl, d⟩ := dql1 h
  obtain ⟨a, ws, rfl, hq, hzz, hall⟩ := dp_lst d
  rw [dqa_bls hall] at hq
  exact ⟨a, xs, rfl, .inl (rd_sel fz hq), k _ F H (Grow.rf fz.h) (.bl _)⟩⟩
theorem cl_abs {i : Int} : CalV X b (.builtin "abs") [(la, Py.enc i)] lc (Py.enc (i.natAbs : Int)) := ⟨_, call_abs, fun F H vs Q fz h k => by
  obtain ⟨v, rfl, d⟩ := dql1 h
  refine ⟨i, by rw [dp_int d], k _ F H (Grow.rf fz.h) ?_⟩
  have : (if i < 0 then -i else i) = (i.natAbs : Int) := by split <;> omega
  rw [this]
  exact .int _⟩
theorem cl_max2 (c : Cf X N sc mg W) {i j : Int} : CalV X b (.builtin "max") [(la, Py.enc i), (lb, Py.enc j)] lc (Py.enc (max i j)) := ⟨_, call_max2 c.calm, fun F H vs Q fz h k => by
  obtain ⟨v, w, rfl, d, d'⟩ := dql2 h
  refine ⟨i, j, by rw [dp_int d, dp_int d'], k _ F H (Grow.rf fz.h) ?_⟩
  have : (if j > i then j else i) = max i j := by omega
  rw [this]
  exact .int _⟩
theorem cl_min2 (c : Cf X N sc mg W) {i j : Int} : CalV X b (.builtin "min") [(la, Py.enc i), (lb, Py.enc j)] lc (Py.enc (min i j)) := ⟨_, call_min2 c.calm, fun F H vs Q fz h k => by
  obtain ⟨v, w, rfl, d, d'⟩ := dql2 h
  refine ⟨i, j, by rw [dp_int d, dp_int d'], k _ F H (Grow.rf fz.h) ?_⟩
  have : (if j < i then j else i) = min i j := by omega
  rw [this]
  exact .int _⟩
theorem call_max3 (hc : X.calm = true) : CallR X (.builtin "max") (fun xs H Q => ∃ i j l, xs = [.int i, .int j, .int l] ∧ Q (.int (max (max i j) l)) H) := by
  intro pins s σ H xs us Q I r h
  obtain ⟨i, j, l, rfl, q⟩ := h
  obtain ⟨t, t', t2, rfl⟩ : ∃ t t' t2, us = [Value.int i t, Value.int j t', Value.int l t2] := by
    cases r with | cons a r => cases r with | cons a' r => cases r with | cons a2 r =>
      cases r
      obtain ⟨t, rfl⟩ := a
      obtain ⟨t', rfl⟩ := a'
      obtain ⟨t2, rfl⟩ := a2
      exact ⟨t, t', t2, rfl⟩
  refine max_three_ints (I.ok.hd hc) fun h' tk k => ⟨_, H, I.kept k, ?_, q⟩
  by_cases h1 : j > i
  · rw [if_pos h1]
    by_cases h2 : l > j
    · rw [if_pos h2, show max (max i j) l = l by omega]; exact ⟨_, rfl⟩
    · rw [if_neg h2, show max (max i j) l = j by omega]; exact ⟨_, rfl⟩
  · rw [if_neg h1]
    by_cases h2 : l > i
    · rw [if_pos h2, show max (max i j) l = l by omega]; exact ⟨_, rfl⟩
    · rw [if_neg h2, show max (max i j) l = i by omega]; exact ⟨_, rfl⟩
theorem cl_max3 (c : Cf X N sc mg W) {i j l : Int} : CalV X b (.builtin "max") [(la, Py.enc i), (lb, Py.enc j), (lv, Py.enc l)] lc (Py.enc (max (max i j) l)) := ⟨_, call_max3 c.calm, fun F H vs Q fz h k => by
  obtain ⟨v, w, u, rfl, d, d', d2⟩ := dql3 h
  exact ⟨i, j, l, by rw [dp_int d, dp_int d', dp_int d2], k _ F H (Grow.rf fz.h) (.int _)⟩⟩
/-- max, min of a list that is not empty -/
def maxL : List Int → Int
  | [] => 0
  | [x] => x
  | x :: y :: r => max x (maxL (y :: r))
def minL : List Int → Int
  | [] => 0
  | [x] => x
  | x :: y :: r => min x (minL (y :: r))
theorem maxL_mem : ∀ {xs : List Int}, xs ≠ [] → maxL xs ∈ xs
  | [], h => absurd rfl h
  | [x], _ => by simp [maxL]
  | x :: y :: r, _ => by
    have ih := maxL_mem (xs := y :: r) (by simp)
    rw [maxL]
    by_cases h : x ≤ maxL (y :: r)
    · rw [show max x (maxL (y :: r)) = maxL (y :: r) by omega]
      exact List.mem_cons_of_mem _ ih
    · rw [show max x (maxL (y :: r)) = x by omega]
      exact List.mem_cons_self
theorem le_maxL : ∀ {xs : List Int} {z : Int}, z ∈ xs → z ≤ maxL xs
  | [], _, h => by cases h
  | [x], z, h => by simp at h; subst h; simp [maxL]
  | x :: y :: r, z, h => by
    rw [maxL]
    rcases List.mem_cons.mp h with rfl | h
    · omega
    · have := le_maxL h; omega
theorem minL_mem : ∀ {xs : List Int}, xs ≠ [] → minL xs ∈ xs
  | [], h => absurd rfl h
  | [x], _ => by simp [minL]
  | x :: y :: r, _ => by
    have ih := minL_mem (xs := y :: r) (by simp)
    rw [minL]
    by_cases h : x ≤ minL (y :: r)
    · rw [show min x (minL (y :: r)) = x by omega]
      exact List.mem_cons_self
    · rw [show min x (minL (y :: r)) = minL (y :: r) by omega]
      exact List.mem_cons_of_mem _ ih
theorem minL_le : ∀ {xs : List Int} {z : Int}, z ∈ xs → minL xs ≤ z
  | [], _, h => by cases h
  | [x], z, h => by simp at h; subst h; simp [minL]
  | x :: y :: r, z, h => by
    rw [minL]
    rcases List.mem_cons.mp h with rfl | h
    · omega
    · have := minL_le h; omega
theorem cl_max (c : Cf X N sc mg W) {xs : List Int} (h0 : xs ≠ []) : CalV X b (.builtin "max") [(la, Py.enc xs)] lc (Py.enc (maxL xs)) := ⟨_, cr_max c.calm, fun F H vs Q fz h k => by
  obtain ⟨v, rfl, d⟩ := dql1 h
  obtain ⟨a, ws, rfl, hq, hzz, hall⟩ := dp_lst d
  rw [dqa_ints hall] at hq
  refine ⟨a, xs, rfl, .inl (rd_sel fz hq), List.length_pos_iff.mpr h0, fun m hm hle => k _ F H (Grow.rf fz.h) ?_⟩
  have : m = maxL xs := by have h1 := le_maxL hm; have h2 := hle _ (maxL_mem h0); omega
  rw [this]
  exact .int _⟩
theorem cl_min (c : Cf X N sc mg W) {xs : List Int} (h0 : xs ≠ []) : CalV X b (.builtin "min") [(la, Py.enc xs)] lc (Py.enc (minL xs)) := ⟨_, cr_min c.calm, fun F H vs Q fz h k => by
  obtain ⟨v, rfl, d⟩ := dql1 h
  obtain ⟨a, ws, rfl, hq, hzz, hall⟩ := dp_lst d
  rw [dqa_ints hall] at hq
  refine ⟨a, xs, rfl, .inl (rd_sel fz hq), List.length_pos_iff.mpr h0, fun m hm hle => k _ F H (Grow.rf fz.h) ?_⟩
  have : m = minL xs := by have h1 := minL_le hm; have h2 := hle _ (minL_mem h0); omega
  rw [this]
  exact .int _⟩
/-- list(xs), tuple(xs) of a list: a new one of the same things -/
theorem cl_list {xs : List α} : CalV X b (.type "list") [(la, Py.enc xs)] la (Py.enc xs) := ⟨_, call_list_of, fun F H vs Q fz h k => by
  obtain ⟨v, rfl, d⟩ := dql1 h
  obtain ⟨a, ws, rfl, hq, hzz, hall⟩ := dp_lst d
  exact ⟨a, ws, rfl, .inl (.inl (rd_sel fz hq)), fun l hl => new_lst fz hall hzz hl k⟩⟩
/-- list(xs) of scalars lives in the new part -/
theorem cl_listS [Scal α] {xs : List α} : CalV X b (.type "list") [(la, Py.enc xs)] lc (Py.enc xs) := ⟨_, call_list_of, fun F H vs Q fz h k => by
  obtain ⟨v, rfl, d⟩ := dql1 h
  obtain ⟨a, ws, rfl, hq, hzz, hall⟩ := dp_lst d
  exact ⟨a, ws, rfl, .inl (.inl (rd_sel fz hq)), fun l hl => new_lst fz (dqa_sc xs ws hall) hzz hl k⟩⟩
theorem cl_tuple {xs : List α} : CalV X b (.type "tuple") [(la, Py.enc xs)] la (Py.enc (VT.mk xs)) := ⟨_, call_tuple_of, fun F H vs Q fz h k => by
  obtain ⟨v, rfl, d⟩ := dql1 h
  obtain ⟨a, ws, rfl, hq, hzz, hall⟩ := dp_lst d
  exact ⟨a, ws, rfl, .inl ⟨.inl (rd_sel fz hq), fun l hl => new_tup fz hall hzz hl k⟩⟩⟩
theorem cl_intB {c : Bool} : CalV X b (.type "int") [(la, Py.enc c)] lc (Py.enc (if c then (1 : Int) else 0)) := ⟨_, call_int1, fun F H vs Q fz h k => by
  obtain ⟨v, rfl, d⟩ := dql1 h
  exact .inr ⟨c, by rw [dp_bl d], k _ F H (Grow.rf fz.h) (.int _)⟩⟩
end
end Zk

namespace Zk
open PySem PySem.Spec PyProof.Rows L2

/-! ### what a loop walks -/
structure JOk (b : Bs) (k : Bool) (J : It) (F' : Hp) (ds : List PyData) : Prop where
  go : ∀ (i : Nat) (d : PyData) (F H : Hp), ds[i]? = some d → Ex F' F → Frz b F H → J.go i H
  yld : ∀ (i : Nat) (d : PyData) (F H : Hp) (x : V) (H' : Hp), ds[i]? = some d → Ex F' F → Frz b F H → J.yld i H x H' → ∃ F1, Grow F H F1 H' ∧ Dq (sel2 b.B F1 k) x d
  stop : ∀ (i : Nat) (F H : Hp), ds.length ≤ i → Ex F' F → Frz b F H → J.stop i H
def tI (K : PySem.W.Frag) (b : Bs) (Γ : List En) (k : Bool) (ds : List PyData) : TI := fun σ H R => ∃ F, EnvOk K b F H σ Γ ∧ ∀ F' H' J, Grow F H F' H' → JOk b k J F' ds → ds.length ≤ sizeLine → R J H'
theorem PI.wk {X : Cx} {tg it : Expr} {t t' : TI} (h : PI X tg it t) (w : ∀ σ H R, t' σ H R → t σ H R) : PI X tg it t' := ⟨fun pins s σ H R I q => h.run pins s σ H R I (w σ H R q)⟩
abbrev XI (X : Cx) (b : Bs) (tg it : Expr) (Γ : List En) (k : Bool) {α : Type} [Py α] (xs : List α) : Prop := PI X tg it (tI X.K b Γ k (xs.map Py.enc))
/-- lo, lo + 1, .. -/
def rg (lo : Int) (n : Nat) : List Int := (List.range n).map fun (i : Nat) => lo + (i : Int)
def enumL {α : Type} (xs : List α) : List (Int × α) := xs.zipIdx.map fun p => ((p.2 : Int), p.1)
theorem rg_len (lo : Int) (n : Nat) : (rg lo n).length = n := by unfold rg; simp
theorem sel2_ne {b : Bs} {F : Hp} {a : Addr} {u : HO} {k : Bool} (h : Rd (sel2 b.B F k) a u) : Rd F a u := (sel2_le k).rd h

section
variable {X : Cx} {b : Bs} {N : List Str} {sc : Scope} {mg : Str → Option Value} {W : Str → Bool} {Γ : List En} {k : Bool} {pos pp tpos : Pos} {e e1 e2 tg : Expr}
variable {α β γ : Type} [Py α] [Py β] [Py γ]
theorem rd_uniq {H : Hp} {a : Addr} {xs ys : List V} (h : Rd H a (.lst xs)) (h' : Rd H a (.lst ys)) : xs = ys := by
  rcases h with h | ⟨o, h⟩ <;> rcases h' with h' | ⟨o', h'⟩ <;> rw [h] at h' <;> cases h' <;> rfl
theorem rd_uniqT {H : Hp} {a : Addr} {xs ys : List V} (h : Rd H a (.tup xs)) (h' : Rd H a (.tup ys)) : xs = ys := by
  rcases h with h | ⟨o, h⟩ <;> rcases h' with h' | ⟨o', h'⟩ <;> rw [h] at h' <;> cases h' <;> rfl
theorem sqL_rd {K : PySem.W.Frag} {H : Hp} {a : Addr} {xs : List V} (h : Rd H a (.lst xs)) : SqL K H a xs := .inl h
theorem jok_list {K : PySem.W.Frag} {F' : Hp} {a : Addr} {vs : List V} {ds : List PyData} (hq : Rd (sel2 b.B F' k) a (.lst vs)) (hall : DqAll (sel2 b.B F' k) vs ds) : JOk b k (Itl K a) F' ds := by
  have up : ∀ {F H : Hp}, Ex F' F → Frz b F H → Rd H a (.lst vs) := fun e fz => (e.tr fz.h).rd (sel2_ne hq)
  refine ⟨fun i d F H hd e fz => ?_, fun i d F H x H' hd e fz hy => ?_, fun i F H hi e fz => ?_⟩
  · obtain ⟨v, hv, _⟩ := dqa_getd hall hd
    exact ⟨vs, v, .inl (up e fz), hv⟩
  · obtain ⟨rfl, hx⟩ := hy
    obtain ⟨v, hv, dv⟩ := dqa_getd hall hd
    have := hx vs (.inl (up e fz))
    rw [hv] at this
    cases this
    exact ⟨F, Grow.rf fz.h, dq_mo (sel2_mo e k) _ _ dv⟩
  · exact ⟨vs, .inl (up e fz), by rw [dqa_len hall]; exact hi⟩
theorem jok_tup {K : PySem.W.Frag} {F' : Hp} {a : Addr} {vs : List V} {ds : List PyData} (hq : Rd (sel2 b.B F' k) a (.tup vs)) (hall : DqAll (sel2 b.B F' k) vs ds) : JOk b k (Itt K a) F' ds := by
  have up : ∀ {F H : Hp}, Ex F' F → Frz b F H → Rd H a (.tup vs) := fun e fz => (e.tr fz.h).rd (sel2_ne hq)
  refine ⟨fun i d F H hd e fz => ?_, fun i d F H x H' hd e fz hy => ?_, fun i F H hi e fz => ?_⟩
  · obtain ⟨v, hv, _⟩ := dqa_getd hall hd
    exact ⟨vs, v, .inl (up e fz), hv⟩
  · obtain ⟨rfl, hx⟩ := hy
    obtain ⟨v, hv, dv⟩ := dqa_getd hall hd
    have := hx vs (.inl (up e fz))
    rw [hv] at this
    cases this
    exact ⟨F, Grow.rf fz.h, dq_mo (sel2_mo e k) _ _ dv⟩
  · exact ⟨vs, .inl (up e fz), by rw [dqa_len hall]; exact hi⟩
theorem xi_list {xs : List α} (h : XE X b e Γ (.st k) xs) : XI X b tg e Γ k xs :=
  PI.wk (pi_list h) fun σ H R ⟨F, ok, kk⟩ => ⟨F, ok, fun v F' H' g d => by
    obtain ⟨a, vs, rfl, hq, hz, hall⟩ := dp_lst d
    exact ⟨a, rfl, ⟨vs, .inl (g.h.rd (sel2_ne hq))⟩, kk F' H' _ g (jok_list hq hall) (by rw [← dqa_len hall]; exact hz)⟩⟩
theorem xi_tup {p : β} {xs : List α} (h : XE X b e Γ (.st k) p) (hp : Py.enc p = .tuple (xs.map Py.enc)) : XI X b tg e Γ k xs :=
  PI.wk (pi_tup h) fun σ H R ⟨F, ok, kk⟩ => ⟨F, ok, fun v F' H' g d => by
    rw [hp] at d
    obtain ⟨a, vs, rfl, hq, hz, hall⟩ := dp_tup d
    exact ⟨a, rfl, ⟨vs, .inl (g.h.rd (sel2_ne hq))⟩, kk F' H' _ g (jok_tup hq hall) (by rw [← dqa_len hall]; exact hz)⟩⟩
theorem rg_at {lo : Int} {n i : Nat} {d : PyData} (h : ((rg lo n).map Py.enc)[i]? = some d) : i < n ∧ d = .int (lo + i) := by
  unfold rg at h
  rw [List.map_map, List.getElem?_map] at h
  by_cases hi : i < n
  · rw [List.getElem?_range hi] at h
    cases h
    exact ⟨hi, rfl⟩
  · rw [List.getElem?_eq_none (by simpa using hi)] at h
    cases h
theorem jok_rg {F' : Hp} {lo : Int} {n : Nat} : JOk b k (Itr lo n) F' ((rg lo n).map Py.enc) := by
  refine ⟨fun i d F H hd e fz => (rg_at hd).1, fun i d F H x H' hd e fz hy => ?_, fun i F H hi e fz => ?_⟩
  · obtain ⟨rfl, rfl⟩ := hy
    obtain ⟨_, rfl⟩ := rg_at hd
    exact ⟨F, Grow.rf fz.h, .int _⟩
  · rw [List.length_map, rg_len] at hi
    exact hi
theorem xi_range1 {la : Lv} {n : Int} (c : Cf X N sc mg W) (h : XE X b e Γ la n) (hz : -1000000 ≤ n ∧ n ≤ 1000000) (hg : sc.names.lookup ("range" : Str) = some .globalImplicit) (hm : mg "range" = none) (hs : starEach [e] X.env = [(false, eval e X.env)] := by rfl) :
    XI X b tg (.Call (.Name "range" pp) [e] [] pos) Γ k (rg 0 n.toNat) :=
  PI.wk (pi_range1 (show X.env.scope.names.lookup _ = _ by rw [c.hs]; exact hg) (by rw [c.hm]; exact hm) (xa_cons h xa_nil hs) hs) fun σ H R ⟨F, ok, kk⟩ => ⟨F, ok, fun vs F' H' g d => by
    obtain ⟨v, rfl, d'⟩ := dql1 d
    exact ⟨n, by rw [dp_int d'], by omega, by omega, kk F' H' _ g jok_rg (by rw [List.length_map, rg_len]; exact Nat.le_trans (by omega) (show 1000000 ≤ sizeLine by decide))⟩⟩
theorem xi_range2 {la lb : Lv} {m n : Int} (c : Cf X N sc mg W) (h1 : XE X b e1 Γ la m) (h : XE X b e2 Γ lb n) (hz : (-1000000 ≤ m ∧ m ≤ 1000000) ∧ -1000000 ≤ n ∧ n ≤ 1000000) (hg : sc.names.lookup ("range" : Str) = some .globalImplicit) (hm : mg "range" = none) (hs : starEach [e1, e2] X.env = [(false, eval e1 X.env), (false, eval e2 X.env)] := by rfl) (hs2 : starEach [e2] X.env = [(false, eval e2 X.env)] := by rfl) :
    XI X b tg (.Call (.Name "range" pp) [e1, e2] [] pos) Γ k (rg m (n - m).toNat) :=
  PI.wk (pi_range2 (show X.env.scope.names.lookup _ = _ by rw [c.hs]; exact hg) (by rw [c.hm]; exact hm) (xa_cons h1 (xa_cons h xa_nil hs2) (by rw [hs, hs2])) hs hs2) fun σ H R ⟨F, ok, kk⟩ => ⟨F, ok, fun vs F' H' g d => by
    obtain ⟨v, w, rfl, d1, d2⟩ := dql2 d
    exact ⟨m, n, by rw [dp_int d1, dp_int d2], ⟨by omega, by omega, by omega, by omega⟩, kk F' H' _ g jok_rg (by rw [List.length_map, rg_len]; exact Nat.le_trans (by omega) (show 2000000 ≤ sizeLine by decide))⟩⟩
theorem enum_at {xs : List α} {i : Nat} {d : PyData} (h : ((enumL xs).map Py.enc)[i]? = some d) : ∃ x, xs[i]? = some x ∧ d = .tuple [.int (i : Int), Py.enc x] := by
  unfold enumL at h
  rw [List.map_map, List.getElem?_map, List.getElem?_zipIdx] at h
  cases q : xs[i]? with
  | none => rw [q] at h; cases h
  | some x =>
    rw [q] at h
    cases h
    refine ⟨x, rfl, ?_⟩
    show PyData.tuple [.int ((0 + i : Nat) : Int), Py.enc x] = _
    rw [Nat.zero_add]
theorem enumL_len (xs : List α) : (enumL xs).length = xs.length := by unfold enumL; simp
theorem jok_enum {K : PySem.W.Frag} {F' : Hp} {a : Addr} {vs : List V} {xs : List α} (hq : Rd (sel2 b.B F' k) a (.lst vs)) (hall : DqAll (sel2 b.B F' k) vs (xs.map Py.enc)) : JOk b k (Ite K a) F' ((enumL xs).map Py.enc) := by
  have up : ∀ {F H : Hp}, Ex F' F → Frz b F H → Rd H a (.lst vs) := fun e fz => (e.tr fz.h).rd (sel2_ne hq)
  refine ⟨fun i d F H hd e fz => ?_, fun i d F H x H' hd e fz hy => ?_, fun i F H hi e fz => ?_⟩
  · obtain ⟨x, hx, _⟩ := enum_at hd
    obtain ⟨v, hv, _⟩ := dqa_getd hall (i := i) (d := Py.enc x) (by rw [List.getElem?_map, hx]; rfl)
    exact ⟨vs, v, .inl (up e fz), hv⟩
  · obtain ⟨T, y, rfl, hT, rfl, hx⟩ := hy
    obtain ⟨x, hxx, rfl⟩ := enum_at hd
    obtain ⟨v, hv, dv⟩ := dqa_getd hall (i := i) (d := Py.enc x) (by rw [List.getElem?_map, hxx]; rfl)
    have := hx vs (.inl (up e fz))
    rw [hv] at this
    cases this
    have g := Grow.new (o := HO.tup [V.int (i : Nat), y]) fz.h hT
    refine ⟨_, g, .tup (xs := [V.int (i : Nat), y]) (.inl (sel2_new fz hT k)) (show 2 ≤ sizeLine by decide) (.cons (.int _) (.cons (dq_mo (sel2_mo (e.tr g.f) k) _ _ dv) .nil))⟩
  · exact ⟨vs, .inl (up e fz), by rw [dqa_len hall, List.length_map]; rw [List.length_map, enumL_len] at hi; exact hi⟩
theorem xi_enum {elts : List Expr} {kk : Nat} {xs : List α} (c : Cf X N sc mg W) (h : XE X b e Γ (.st k) xs) (hg : sc.names.lookup ("enumerate" : Str) = some .globalImplicit) (hm : mg "enumerate" = none) (hs : starEach [e] X.env = [(false, eval e X.env)] := by rfl) :
    XI X b (.Tuple elts kk tpos) (.Call (.Name "enumerate" pp) [e] [] pos) Γ k (enumL xs) :=
  PI.wk (pi_enum (show X.env.scope.names.lookup _ = _ by rw [c.hs]; exact hg) (by rw [c.hm]; exact hm) (xa_cons h xa_nil hs) hs) fun σ H R ⟨F, ok, kk⟩ => ⟨F, ok, fun vs F' H' g d => by
    obtain ⟨v, rfl, d'⟩ := dql1 d
    obtain ⟨a, vs, rfl, hq, hz, hall⟩ := dp_lst d'
    exact ⟨a, vs, rfl, .inl (g.h.rd (sel2_ne hq)), kk F' H' _ g (jok_enum hq hall) (by rw [List.length_map, enumL_len, ← List.length_map (f := Py.enc), ← dqa_len hall]; exact hz)⟩⟩

/-! ### targets -/
variable {j : Nat} {x : Str} {a : α} {q : β}
theorem set_other {σ : L2.St} {v : V} {i : Nat} (h : i ∉ [j]) : (σ.set j (some v))[i]? = σ[i]? := List.getElem?_set_ne (by intro z; exact h (by simp [z]))
theorem xg_name {ia : Py α} (c : Cf X N sc mg W) (hN : N[j]? = some x) (hx : L2.Loc sc x) (hW : W x = true) : XG X b (.Name x pos) Γ k a [j] (Γ.set j (.dat α ia k a)) := by
  have hx' : L2.Loc X.env.scope x := by rw [c.hs]; exact hx
  exact PG.wk (pg_name (i := j) (by rw [c.hN]; exact c.nd) (by rw [c.hN]; exact hN) hx' (c.fn x hW)) fun v σ H Q ⟨F, ok, d, kk⟩ => kk _ (ok.setD d j) (by simp) fun i hi => set_other hi
abbrev XGs (X : Cx) (b : Bs) (ts : List Expr) (Γ : List En) (k : Bool) (ds : List PyData) (js : List Nat) (Γ' : List En) : Prop := PGs X ts (fun vs σ H Q => ∃ F, EnvOk X.K b F H σ Γ ∧ DqAll (sel2 b.B F k) vs ds ∧
  ∀ σ', EnvOk X.K b F H σ' Γ' → σ'.length = σ.length → (∀ i, i ∉ js → σ'[i]? = σ[i]?) → Q σ' H)
theorem PGs.wk {ts : List Expr} {t t' : TGs} (h : PGs X ts t) (w : ∀ vs σ H Q, t' vs σ H Q → t vs σ H Q) : PGs X ts t' := ⟨fun pins s σ H vs us Q I r q => h.run pins s σ H vs us Q I r (w vs σ H Q q)⟩
theorem xgs_nil : XGs X b [] Γ k [] [] Γ := PGs.wk pgs_nil fun vs σ H Q ⟨F, ok, d, kk⟩ => by
  cases d
  exact ⟨rfl, kk σ ok rfl fun _ _ => rfl⟩
theorem xgs_cons {ts : List Expr} {d : PyData} {ds : List PyData} {js js' : List Nat} {Γ1 Γ2 : List En} (h1 : PG X e (tG' X.K b Γ k d js Γ1)) (h2 : XGs X b ts Γ1 k ds js' Γ2)
    (hs : (assignEach (e :: ts) X.env).map (·.2) = assign e X.env :: (assignEach ts X.env).map (·.2) := by rfl) : XGs X b (e :: ts) Γ k (d :: ds) (js ++ js') Γ2 :=
  PGs.wk (pgs_cons h1 h2 hs) fun vs σ H Q ⟨F, ok, dd, kk⟩ => by
    cases dd with
    | cons d1 d2 => exact ⟨_, _, rfl, F, ok, d1, fun σ1 ok1 l1 o1 => ⟨F, ok1, d2, fun σ2 ok2 l2 o2 => kk σ2 ok2 (l2.trans l1) fun i hi => by
        rw [List.mem_append, not_or] at hi
        exact (o2 i hi.2).trans (o1 i hi.1)⟩⟩
theorem xg_tup {es : List Expr} {kk : Nat} {ds : List PyData} {js : List Nat} {Γ' : List En} (c : Cf X N sc mg W) (h : XGs X b es Γ k ds js Γ') (hp : Py.enc a = .tuple ds) (hn : (assignEach es X.env).length = ds.length := by rfl) (hst : (assignEach es X.env).findIdx? (·.1) = none := by rfl) :
    XG X b (.Tuple es kk pos) Γ k a js Γ' :=
  PG.wk (pg_tup c.calm h hn hst) fun v σ H Q ⟨F, ok, d, kq⟩ => by
    rw [hp] at d
    obtain ⟨a, vs, rfl, hq, hz, hall⟩ := dp_tup d
    exact ⟨a, vs, rfl, .inl (ok.fr.h.rd (sel2_ne hq)), dqa_len hall, F, ok, hall, kq⟩
end

/-! ### comprehensions -/
def wipeE (Γ : List En) : List Nat → List En
  | [] => Γ
  | v :: vs => (wipeE Γ vs).set v .no
theorem wipeE_len (Γ : List En) : ∀ vs, (wipeE Γ vs).length = Γ.length
  | [] => rfl
  | v :: vs => by unfold wipeE; rw [List.length_set, wipeE_len Γ vs]
theorem EnvOk.setN {K : PySem.W.Frag} {b : Bs} {F H : Hp} {σ : L2.St} {Γ : List En} (e : EnvOk K b F H σ Γ) (j : Nat) (o : Option V) : EnvOk K b F H (σ.set j o) (Γ.set j .no) := by
  obtain ⟨fr, len, fp, h1, h2, h3⟩ := e
  refine ⟨fr, by simpa using len, fp, h1, h2, fun m e he => ?_⟩
  by_cases z : j = m
  · subst z
    have hj : j < Γ.length := by simpa using (List.getElem?_eq_some_iff.mp he).1
    rw [List.getElem?_set_self hj] at he
    cases he
    exact ⟨o, by rw [List.getElem?_set_self (by omega)], True.intro⟩
  · rw [List.getElem?_set_ne z] at he
    obtain ⟨o, a, c⟩ := h3 m e he
    exact ⟨o, by rw [List.getElem?_set_ne z]; exact a, c⟩
theorem EnvOk.wipe {K : PySem.W.Frag} {b : Bs} {F H : Hp} {σ : L2.St} {Γ : List En} (e : EnvOk K b F H σ Γ) : ∀ vs, EnvOk K b F H (L2.wipe σ vs) (wipeE Γ vs)
  | [] => e
  | v :: vs => (e.wipe vs).setN v none
theorem wipe_at {σ : L2.St} {i : Nat} : ∀ {vs : List Nat}, i ∈ vs → i < σ.length → (L2.wipe σ vs)[i]? = some none
  | v :: vs, h, hl => by
    show ((L2.wipe σ vs).set v none)[i]? = _
    by_cases z : v = i
    · subst z; rw [List.getElem?_set_self (by rw [wipe_length]; exact hl)]
    · rw [List.getElem?_set_ne z]
      rcases List.mem_cons.mp h with q | q
      · exact absurd q.symm z
      · exact wipe_at q hl
theorem wipe_same {σ σ' : L2.St} {vs js : List Nat} (hj : ∀ i ∈ js, i ∈ vs) (hl : σ'.length = (L2.wipe σ vs).length) (ho : ∀ i, i ∉ js → σ'[i]? = (L2.wipe σ vs)[i]?) : L2.wipe σ' vs = L2.wipe σ vs := by
  have hl2 : σ'.length = σ.length := by rw [hl, wipe_length]
  apply List.ext_getElem?
  intro i
  by_cases hi : i ∈ vs
  · by_cases hb : i < σ.length
    · rw [wipe_at hi hb, wipe_at hi (by omega)]
    · rw [List.getElem?_eq_none (by rw [wipe_length]; omega), List.getElem?_eq_none (by rw [wipe_length]; omega)]
  · rw [wipe_out hi, ho i fun z => hi (hj i z)]
/-- the block of a comprehension that stands in X -/
def IsBlk (X : Cx) (scope : Scope) (X' : Cx) : Prop := ∃ (s : Shared) (H : Hp) (C : Addr) (cl : List (Str × Addr)) (fp : List Addr), X' = X.blk s H scope (compEnvC scope cl C X.env) fp
def ownW (scope : Scope) (x : Str) : Bool := match scope.names.lookup x with
  | some .cell => true
  | some .local => true
  | _ => false
theorem IsBlk.cf {X X' : Cx} {N : List Str} {sc scope : Scope} {mg : Str → Option Value} {W : Str → Bool} (h : IsBlk X scope X') (c : Cf X N sc mg W) : Cf X' N (relS scope sc) mg (ownW scope) := by
  obtain ⟨s, H, C, cl, fp, rfl⟩ := h
  have hs : (compEnvC scope cl C X.env).scope = relS scope X.env.scope := rfl
  refine ⟨c.hN, by rw [← c.hs]; exact hs, c.hm, c.nd, c.calm, PassesOwn.never, c.un, fun x hx => ?_⟩
  show (scope.names.lookup x == some NameKind.cell) = true ∨ (relS scope X.env.scope).names.lookup x = some .local
  unfold ownW at hx
  split at hx
  · rename_i q; exact .inl (by rw [q]; rfl)
  · rename_i q; exact .inr (lookup_relS_keep (by decide) q)
  · cases hx
end Zk

namespace Zk
open PySem PySem.Spec PyProof.Rows L2

def hid (H : Hp) (D : Addr) : Hp := fun l => if l = D then none else H l
theorem hid_ne {H : Hp} {D l : Addr} (h : l ≠ D) : hid H D l = H l := by unfold hid; rw [if_neg h]
theorem hid_eq {H : Hp} {D : Addr} : hid H D D = none := by unfold hid; rw [if_pos rfl]
theorem hid_le {H : Hp} {D : Addr} : Ex (hid H D) H := fun l o h => by
  by_cases z : l = D
  · subst z; rw [hid_eq] at h; cases h
  · rw [hid_ne z] at h; exact h
theorem le_hid {F H : Hp} {D : Addr} (e : Ex F H) (h : F D = none) : Ex F (hid H D) := fun l o q => by
  by_cases z : l = D
  · subst z; rw [h] at q; cases q
  · rw [hid_ne z]; exact e l o q
theorem hid_upd {H : Hp} {D : Addr} {o : HO} : hid (upd H D o) D = hid H D := by
  funext l
  by_cases z : l = D
  · subst z; rw [hid_eq, hid_eq]
  · rw [hid_ne z, hid_ne z, upd_ne z]
theorem upd_hid {H : Hp} {D : Addr} {o : HO} (h : H D = some o) : upd (hid H D) D o = H := by
  funext l
  by_cases z : l = D
  · subst z; rw [upd_same, h]
  · rw [upd_ne z, hid_ne z]
theorem hid_new {H : Hp} {D : Addr} (h : H D = none) : hid H D = H := by
  funext l
  by_cases z : l = D
  · subst z; rw [hid_eq, h]
  · rw [hid_ne z]
theorem Grow.unhid {F H : Hp} {D : Addr} (e : Ex F (hid H D)) : Grow F (hid H D) F H := ⟨Ex.rf _, e.tr hid_le, hid_le, fun _ _ => rfl⟩
theorem Grow.hid {F H F' H' : Hp} {D : Addr} (g : Grow F H F' H') (hF : F D = none) (hH : H D ≠ none) : Grow F (hid H D) F' (hid H' D) := by
  have hF' : F' D = none := (g.n D hH).trans hF
  refine ⟨g.f, le_hid g.h hF', fun l o q => ?_, fun l hl => g.n l (hid_le.ne hl)⟩
  by_cases z : l = D
  · subst z; rw [hid_eq] at q; cases q
  · rw [hid_ne z] at q ⊢; exact g.b l o q

abbrev XTs (X : Cx) (b : Bs) (ifs : List Expr) (Γ : List En) (c : Bool) : Prop := PTs X ifs (tT X.K b Γ c)
theorem PTs.wk {X : Cx} {e : List Expr} {t t' : TT} (h : PTs X e t) (w : ∀ σ H Q, t' σ H Q → t σ H Q) : PTs X e t' := ⟨fun pins s σ H Q I q => h.run pins s σ H Q I (w σ H Q q)⟩
section
variable {X : Cx} {b : Bs} {N : List Str} {sc scope : Scope} {mg : Str → Option Value} {W : Str → Bool} {Γ : List En} {k k' : Bool} {pos : Pos} {e elt tg it : Expr} {ifs : List Expr}
variable {α β : Type} [Py α] [Py β]
theorem xts_nil : XTs X b [] Γ true := PTs.wk pts_nil fun σ H Q ⟨F, ok, kk⟩ => kk F H (Grow.rf ok.fr.h)
theorem xts_one {c : Bool} (h : XT X b e Γ c) : XTs X b [e] Γ c := pts_one h
def gLc (K : PySem.W.Frag) (b : Bs) (Γ : List En) (vs : List Nat) (k : Bool) (xs : List α) (js : List Nat) (Γt : α → List En) : TG := fun v σ H Q => ∃ x, x ∈ xs ∧ tG' K b (wipeE Γ vs) k (Py.enc x) js (Γt x) v σ H Q
def cLc (K : PySem.W.Frag) (b : Bs) (xs : List α) (Γt : α → List En) (f : α → Bool) : TT := fun σ H Q => ∃ x, x ∈ xs ∧ tT K b (Γt x) (f x) σ H Q
def eLc (K : PySem.W.Frag) (b : Bs) (k' : Bool) (xs : List α) (Γt : α → List En) (f : α → Bool) (g : α → β) : TE := fun σ H Q => ∃ x, x ∈ xs ∧ f x = true ∧ tE K b (Γt x) (.st k') (Py.enc (g x)) σ H Q
theorem lc_g {vs : List Nat} {xs : List α} {Γt : α → List En} {js : List Nat} (hg : ∀ X', IsBlk X scope X' → ∀ x, x ∈ xs → XG X' b tg (wipeE Γ vs) k x js (Γt x)) (s : Shared) (H : Hp) (C : Addr) (cl : List (Str × Addr)) (fp : List Addr) :
    PG (X.blk s H scope (compEnvC scope cl C X.env) fp) tg (gLc X.K b Γ vs k xs js Γt) := ⟨fun pins s' σ H' v u Q I r ⟨x, hx, h⟩ => (hg _ ⟨s, H, C, cl, fp, rfl⟩ x hx).run _ _ _ _ _ _ _ I r h⟩
theorem lc_t {xs : List α} {Γt : α → List En} {f : α → Bool} (ht : ∀ X', IsBlk X scope X' → ∀ x, x ∈ xs → XTs X' b ifs (Γt x) (f x)) (s : Shared) (H : Hp) (C : Addr) (cl : List (Str × Addr)) (fp : List Addr) :
    PTs (X.blk s H scope (compEnvC scope cl C X.env) fp) ifs (cLc X.K b xs Γt f) := ⟨fun pins s' σ H' Q I ⟨x, hx, h⟩ => (ht _ ⟨s, H, C, cl, fp, rfl⟩ x hx).run _ _ _ _ _ I h⟩
theorem lc_e {xs : List α} {Γt : α → List En} {f : α → Bool} {g : α → β} (he : ∀ X', IsBlk X scope X' → ∀ x, x ∈ xs → f x = true → XE X' b elt (Γt x) (.st k') (g x)) (s : Shared) (H : Hp) (C : Addr) (cl : List (Str × Addr)) (fp : List Addr) :
    PE (X.blk s H scope (compEnvC scope cl C X.env) fp) elt (eLc X.K b k' xs Γt f g) := ⟨fun pins s' σ H' Q I ⟨x, hx, hf, h⟩ => (he _ ⟨s, H, C, cl, fp, rfl⟩ x hx hf).run _ _ _ _ _ I h⟩
theorem lc_red {K : PySem.W.Frag} {vs : List Nat} {xs : List α} {Γt : α → List En} {f : α → Bool} {g : α → β} {js : List Nat} (hj : ∀ i ∈ js, i ∈ vs) : ∀ (σ : L2.St) (H : Hp) (Q : VK), tE K b Γ (.st k') (Py.enc ((xs.filter f).map g)) σ H Q →
    tLc (tI K b Γ k (xs.map Py.enc)) (gLc K b Γ vs k xs js Γt) (cLc K b xs Γt f) (eLc K b k' xs Γt f g) vs σ H Q := by
  rintro σ H Q ⟨F0, ok0, kk⟩
  refine ⟨F0, ok0, fun F1 H1 J g1 J1 hz D hD => ?_⟩
  have ok1 := ok0.gr g1
  have fD1 : F1 D = none := g1.h.no hD
  let ys : Nat → List PyData := fun i => (((xs.take i).filter f).map g).map Py.enc
  have hlen : (xs.map Py.enc).length = xs.length := List.length_map ..
  have hyl : ∀ i, (ys i).length ≤ i := fun i => by
    show ((((xs.take i).filter f).map g).map Py.enc).length ≤ i
    rw [List.length_map, List.length_map]
    exact Nat.le_trans (List.length_filter_le _ _) (by rw [List.length_take]; omega)
  refine ⟨fun i m H => m = xs.length - i ∧ i ≤ xs.length ∧ ∃ F acc, H D = some (.lst acc) ∧ F D = none ∧ Grow F1 H1 F (hid H D) ∧ DqAll (sel2 b.B F k') acc (ys i),
    ⟨xs.length, by simp, Nat.zero_le _, F1, [], upd_same, fD1, ?_, ?_⟩, ?_⟩
  · rw [hid_upd, hid_new hD]
    exact Grow.rf g1.h
  · show DqAll _ [] ((((xs.take 0).filter f).map g).map Py.enc)
    rw [List.take_zero]
    exact .nil
  · rintro i m H ⟨rfl, hi', F, acc, hHD, hFD, gF, dacc⟩
    have okF : EnvOk K b F (hid H D) σ Γ := ok1.gr gF
    have okH : EnvOk K b F H σ Γ := okF.gr (Grow.unhid gF.h)
    have fzH := okH.fr
    have lacc : acc.length ≤ i := by rw [dqa_len dacc]; exact hyl i
    by_cases hlt : i < xs.length
    · refine .inr ?_
      have hx : xs[i]? = some xs[i] := List.getElem?_eq_getElem hlt
      have hxm : xs[i] ∈ xs := List.getElem_mem hlt
      have hd : (xs.map Py.enc)[i]? = some (Py.enc xs[i]) := by rw [List.getElem?_map, hx]; rfl
      have htk : xs.take (i + 1) = xs.take i ++ [xs[i]] := by rw [List.take_succ, hx]; rfl
      refine ⟨J1.go i _ F H hd gF.f fzH, fun H' => i + 1 ≤ xs.length ∧ ∃ F' acc', H' D = some (.lst acc') ∧ F' D = none ∧ Grow F1 H1 F' (hid H' D) ∧ DqAll (sel2 b.B F' k') acc' (ys (i + 1)), fun H' h' => ⟨xs.length - (i + 1), by omega, rfl, h'⟩, fun xv H2 hy => ?_⟩
      obtain ⟨F2, g2, d2⟩ := J1.yld i _ F H xv H2 hd gF.f fzH hy
      have hDne : H D ≠ none := by rw [hHD]; exact fun z => by cases z
      refine ⟨xs[i], hxm, F2, (okH.gr g2).wipe _, d2, fun σ2 ok2 l2 o2 => ⟨wipe_same hj l2 o2, xs[i], hxm, F2, ok2, fun F3 H3 g3 => ?_⟩⟩
      have g23 := g2.tr g3
      have hH3 : H3 D = some (.lst acc) := g23.b D _ hHD
      cases hf : f xs[i] with
      | true =>
        refine iteT ⟨xs[i], hxm, hf, F3, ok2.gr g3, fun y F4 H4 g4 d4 => ?_⟩
        have g24 := g23.tr g4
        have gh := g24.hid hFD hDne
        have hF4 : F4 D = none := (g24.n D hDne).trans hFD
        refine ⟨acc, g24.b D _ hHD, Nat.lt_of_lt_of_le (Nat.lt_of_le_of_lt lacc hlt) (by rw [← hlen]; exact hz), by omega, F4, acc ++ [y], upd_same, hF4, ?_, ?_⟩
        · rw [hid_upd]
          exact gF.tr gh
        · have e : ys (i + 1) = ys i ++ [Py.enc (g xs[i])] := by
            show (((xs.take (i + 1)).filter f).map g).map Py.enc = _
            rw [htk, List.filter_append, List.map_append, List.map_append, List.filter_cons, if_pos hf]
            rfl
          rw [e]
          exact dqa_snoc (dqa_mo (sel2_mo g24.f k') _ _ dacc) d4
      | false =>
        refine iteF ⟨by omega, F3, acc, hH3, (g23.n D hDne).trans hFD, gF.tr (g23.hid hFD hDne), ?_⟩
        have e : ys (i + 1) = ys i := by
          show (((xs.take (i + 1)).filter f).map g).map Py.enc = _
          rw [htk, List.filter_append, List.filter_cons, if_neg (by rw [hf]; exact Bool.false_ne_true)]
          show (((xs.take i).filter f ++ []).map g).map Py.enc = _
          rw [List.append_nil]
        rw [e]
        exact dqa_mo (sel2_mo g23.f k') _ _ dacc
    · refine .inl ⟨J1.stop i F H (by rw [hlen]; omega) gF.f fzH, ?_⟩
      have e : ys i = ((xs.filter f).map g).map Py.enc := by
        show (((xs.take i).filter f).map g).map Py.enc = _
        rw [List.take_of_length_le (by omega)]
      rw [e] at dacc
      have gN : Grow F (hid H D) (upd F D (.lst acc)) H := by
        have := Grow.new (o := HO.lst acc) gF.h (hid_eq (H := H) (D := D))
        rwa [upd_hid hHD] at this
      have G := (g1.tr gF).tr gN
      refine kk _ _ _ G (.lst (.inl ?_) (Nat.le_trans lacc (Nat.le_trans hi' (by rw [← hlen]; exact hz))) (dqa_mo (sel2_mo gN.f k') _ _ dacc))
      exact sel2_at (ok1.fr.b.no hD) upd_same rfl k'
theorem xe_lc {own : List (Str × Nat)} {xs : List α} {Γt : α → List En} {f : α → Bool} {g : α → β} {js : List Nat} (c : Cf X N sc mg W) (ok : BlkOk N sc scope own) (hj : ∀ i ∈ js, i ∈ own.map (·.2)) (hi : XI X b tg it Γ k xs)
    (hg : ∀ X', IsBlk X scope X' → ∀ x, x ∈ xs → XG X' b tg (wipeE Γ (own.map (·.2))) k x js (Γt x)) (ht : ∀ X', IsBlk X scope X' → ∀ x, x ∈ xs → XTs X' b ifs (Γt x) (f x))
    (he : ∀ X', IsBlk X scope X' → ∀ x, x ∈ xs → f x = true → XE X' b elt (Γt x) (.st k') (g x)) (hs : ∀ x, foldedSetIterable it X.env x = pure x := by intro _; rfl) :
    XE X b (.ListComp elt [⟨tg, it, ifs, 0⟩] scope pos) Γ (.st k') ((xs.filter f).map g) :=
  PE.wk (pe_lc (own := own) c.calm (by rw [c.hN]; exact c.nd) hi (by rw [c.hN, c.hs]; exact ok) (lc_g hg) (lc_t ht) (lc_e he) hs) (lc_red hj)
/-- x = [..], x a local name on the comprehension's line -/
theorem xs_lc {i : Nat} {y : Str} {py spos : Pos} {rl : Bool} {γ : Type} [Py γ] {own : List (Str × Nat)} {xs : List α} {Γt : α → List En} {f : α → Bool} {g : α → β} {js : List Nat} (c : Cf X N sc mg W) (hN : N[i]? = some y) (hy : sc.names.lookup y = some .local) (hk : sc.kind = .function) (hl : (py.line == pos.line) = true) (hown : (scope.names.any fun (n, k) => n == y && (k == .local || k == .cell)) = false)
    (ok : BlkOk N sc scope own) (hj : ∀ i ∈ js, i ∈ own.map (·.2)) (hi : XI X b tg it Γ k xs)
    (hg : ∀ X', IsBlk X scope X' → ∀ x, x ∈ xs → XG X' b tg (wipeE Γ (own.map (·.2))) k x js (Γt x)) (ht : ∀ X', IsBlk X scope X' → ∀ x, x ∈ xs → XTs X' b ifs (Γt x) (f x))
    (he : ∀ X', IsBlk X scope X' → ∀ x, x ∈ xs → f x = true → XE X' b elt (Γt x) (.st k') (g x)) (hs : ∀ x, foldedSetIterable it X.env x = pure x := by intro _; rfl) :
    XS X b rl (.Assign [.Name y py] (.ListComp elt [⟨tg, it, ifs, 0⟩] scope pos) spos) Γ (none : Option γ) (Γ.set i (.dat (List β) pyList k' ((xs.filter f).map g))) :=
  PS.wk (ps_setLc (own := own) c.calm (by rw [c.hN]; exact c.nd) (by rw [c.hN]; exact hN) (by rw [c.hs]; exact hy) (sw_true (by rw [c.hs]; exact hk) (by rw [c.hs]; exact hy) hl hown) hi (by rw [c.hN, c.hs]; exact ok) (lc_g hg) (lc_t ht) (lc_e he) hs)
    fun D σ H ⟨F, okE, kk⟩ => lc_red hj σ H _ ⟨F, okE, fun v F' H' gr d => kk _ F' H' gr.f ((okE.gr gr).setD d i)⟩
/-- without an if -/
theorem xe_lcN {own : List (Str × Nat)} {xs : List α} {Γt : α → List En} {g : α → β} {js : List Nat} (c : Cf X N sc mg W) (ok : BlkOk N sc scope own) (hj : ∀ i ∈ js, i ∈ own.map (·.2)) (hi : XI X b tg it Γ k xs)
    (hg : ∀ X', IsBlk X scope X' → ∀ x, x ∈ xs → XG X' b tg (wipeE Γ (own.map (·.2))) k x js (Γt x))
    (he : ∀ X', IsBlk X scope X' → ∀ x, x ∈ xs → XE X' b elt (Γt x) (.st k') (g x)) (hs : ∀ x, foldedSetIterable it X.env x = pure x := by intro _; rfl) :
    XE X b (.ListComp elt [⟨tg, it, [], 0⟩] scope pos) Γ (.st k') (xs.map g) := by
  have h := xe_lc (f := fun _ => true) (pos := pos) c ok hj hi hg (fun _ _ _ _ => xts_nil) (fun X' h x hx _ => he X' h x hx) hs
  rwa [List.filter_eq_self.mpr fun _ _ => rfl] at h
end

/-! ### own lists -/
def ownR (α : Type) [Py α] (k : Bool) (xs : List α) : Res where
  R := fun _ B F H v A => ∃ l vs, v = .ref l ∧ (∀ m, A m ↔ m = l) ∧ H l = some (.lst vs) ∧ vs.length ≤ sizeLine ∧ DqAll (sel2 B F k) vs (xs.map Py.enc)
  mo := fun ⟨l, vs, e, hA, hl, hz, d⟩ g hH => ⟨l, vs, e, hA, hH l _ ((hA l).mpr rfl) hl, hz, dqa_mo (sel2_mo g k) _ _ d⟩
section
variable {K : PySem.W.Frag} {b : Bs} {F H F' H' : Hp} {σ : L2.St} {Γ : List En}
/-- a new object of one's own -/
theorem EnvOk.newR (e : EnvOk K b F H σ Γ) (g : Grow F H F' H') {r : Res} {v : V} {A : Addr → Prop} (hA : ∀ l, A l → H l = none ∧ H' l ≠ none ∧ F' l = none) (h : r.R K b.B F' H' v A) (j : Nat) : EnvOk K b F' H' (σ.set j (some v)) (Γ.set j (.res r)) := by
  have e' := e
  obtain ⟨fr, len, fp, h1, h2, h3⟩ := e
  refine ⟨fr.gr g, by simpa using len, fun m => if m = j then A else fp m, fun m n l hm hn => ?_, fun m l hm => ?_, fun m e he => ?_⟩
  · by_cases z : m = j <;> by_cases y : n = j
    · rw [z, y]
    · simp only [if_pos z, if_neg y] at hm hn
      exact absurd (hA l hm).1 (h2 n l hn).1
    · simp only [if_neg z, if_pos y] at hm hn
      exact absurd (hA l hn).1 (h2 m l hm).1
    · simp only [if_neg z, if_neg y] at hm hn
      exact h1 m n l hm hn
  · by_cases z : m = j
    · simp only [if_pos z] at hm
      exact ⟨(hA l hm).2.1, (hA l hm).2.2, fr.b.no (hA l hm).1⟩
    · simp only [if_neg z] at hm
      obtain ⟨p, q, r⟩ := h2 m l hm
      exact ⟨g.b.ne p, (g.n l p).trans q, r⟩
  · by_cases z : j = m
    · subst z
      have hj : j < Γ.length := by simpa using (List.getElem?_eq_some_iff.mp he).1
      rw [List.getElem?_set_self hj] at he
      cases he
      exact ⟨some v, by rw [List.getElem?_set_self (by omega)], v, rfl, by simpa using h⟩
    · rw [List.getElem?_set_ne z] at he
      obtain ⟨o, a, c⟩ := h3 m e he
      refine ⟨o, by rw [List.getElem?_set_ne z]; exact a, ?_⟩
      simp only [if_neg (Ne.symm z)]
      exact c.gr g.f fun l o _ q => g.b l o q
/-- an own object is changed -/
theorem EnvOk.mut (e : EnvOk K b F H σ Γ) {j : Nat} {r : Res} (hj : Γ[j]? = some (.res r)) : ∃ v A, σ[j]? = some (some v) ∧ r.R K b.B F H v A ∧ (∀ l, A l → H l ≠ none ∧ F l = none ∧ b.B l = none) ∧
    ∀ (H' : Hp) (r' : Res), (∀ l, ¬ A l → H' l = H l) → (∀ l, A l → H' l ≠ none) → r'.R K b.B F H' v A → EnvOk K b F H' σ (Γ.set j (.res r')) := by
  obtain ⟨fr, len, fp, h1, h2, h3⟩ := e
  obtain ⟨o, ho, v, rfl, hr⟩ := h3 j _ hj
  refine ⟨v, fp j, ho, hr, fun l hl => h2 j l hl, fun H' r' hn hy hr' => ?_⟩
  have fz : Frz b F H' := by
    refine ⟨fr.f, fun l o q => ?_, fun l o q => ?_, fr.n⟩
    · by_cases z : fp j l
      · rw [(h2 j l z).2.1] at q; cases q
      · rw [hn l z]; exact fr.h l o q
    · by_cases z : fp j l
      · rw [(h2 j l z).2.2] at q; cases q
      · rw [hn l z]; exact fr.b l o q
  refine ⟨fz, by simpa using len, fp, h1, fun i l hl => ?_, fun m e he => ?_⟩
  · obtain ⟨p, q, s⟩ := h2 i l hl
    refine ⟨?_, q, s⟩
    by_cases z : fp j l
    · exact hy l z
    · rw [hn l z]; exact p
  · by_cases z : j = m
    · subst z
      have hjl : j < Γ.length := by simpa using (List.getElem?_eq_some_iff.mp he).1
      rw [List.getElem?_set_self hjl] at he
      cases he
      exact ⟨some v, ho, v, rfl, hr'⟩
    · rw [List.getElem?_set_ne z] at he
      obtain ⟨o, a, c⟩ := h3 m e he
      refine ⟨o, a, c.gr (Ex.rf F) fun l o hl q => ?_⟩
      rw [hn l fun y => z (h1 j m l y hl)]
      exact q
/-- an own list is frozen: from now on it is data -/
theorem EnvOk.freeze {α : Type} {ia : Py α} {k : Bool} {xs : List α} (e : EnvOk K b F H σ Γ) {j : Nat} (hj : Γ[j]? = some (.res (ownR α k xs))) : ∃ F', Ex F F' ∧ EnvOk K b F' H σ (Γ.set j (.dat (List α) pyList k xs)) := by
  obtain ⟨fr, len, fp, h1, h2, h3⟩ := e
  obtain ⟨o, ho, v, rfl, l, vs, rfl, hA, hl, hz, d⟩ := h3 j _ hj
  obtain ⟨hl1, hl2, hl3⟩ := h2 j l ((hA l).mpr rfl)
  have eF : Ex F (upd F l (.lst vs)) := Ex.nw hl2
  have hH : Ex (upd F l (.lst vs)) H := fun a o q => by
    by_cases z : a = l
    · subst z; rw [upd_same] at q; rw [← q]; exact hl
    · rw [upd_ne z] at q; exact fr.h a o q
  refine ⟨upd F l (.lst vs), eF, ⟨fr.f.tr eF, hH, fr.b, fun a ha => ?_⟩, by simpa using len, fun m => if m = j then fun _ => False else fp m, fun m n l hm hn => ?_, fun m a hm => ?_, fun m e he => ?_⟩
  · rw [upd_ne (by intro z; subst z; exact ha hl3)]
    exact fr.n a ha
  · by_cases z : m = j
    · simp only [if_pos z] at hm
    · by_cases y : n = j
      · simp only [if_pos y] at hn
      · simp only [if_neg z, if_neg y] at hm hn
        exact h1 m n l hm hn
  · by_cases z : m = j
    · simp only [if_pos z] at hm
    · simp only [if_neg z] at hm
      obtain ⟨p, q, s⟩ := h2 m a hm
      refine ⟨p, ?_, s⟩
      rw [upd_ne]
      · exact q
      · intro y; subst y; exact z (h1 m j _ hm ((hA _).mpr rfl))
  · by_cases z : j = m
    · subst z
      have hjl : j < Γ.length := by simpa using (List.getElem?_eq_some_iff.mp he).1
      rw [List.getElem?_set_self hjl] at he
      cases he
      refine ⟨_, ho, _, rfl, .lst (.inl ?_) hz (dqa_mo (sel2_mo eF k) _ _ d)⟩
      exact sel2_at hl3 upd_same rfl k
    · rw [List.getElem?_set_ne z] at he
      obtain ⟨o, a, c⟩ := h3 m e he
      refine ⟨o, a, ?_⟩
      simp only [if_neg (Ne.symm z)]
      exact c.gr eF fun _ _ _ q => q
end

/-! ### statements -/
section
variable {X : Cx} {b : Bs} {N : List Str} {sc : Scope} {mg : Str → Option Value} {W : Str → Bool} {Γ Γ' Γ1 Γ2 : List En} {k rl : Bool} {lv : Lv} {pos pos' : Pos} {e t tg : Expr} {st : Stmt} {rest body els : List Stmt}
variable {α β : Type} [Py α] [Py β] {p : α} {r r1 r2 : β} {o o1 o2 : Option β} {c : Bool}
def Wk (Γ1 Γ2 : List En) : Prop := ∀ (K : PySem.W.Frag) (b : Bs) (F H : Hp) (σ : L2.St), EnvOk K b F H σ Γ1 → EnvOk K b F H σ Γ2
theorem Wk.sub (s : Sub Γ1 Γ2) : Wk Γ1 Γ2 := fun _ _ _ _ _ e => e.sub s
theorem tS_end {K : PySem.W.Frag} {D : Ends} {F : Hp} {o : Option PyData} {Γ : List En} (h : EndOk K b rl D Γ F o) {F1 : Hp} (e : Ex F F1) : EndOk K b rl D Γ F1 o := by
  cases o with
  | some d => exact fun v σ' F' H' e' => h v σ' F' H' (e.tr e')
  | none => exact fun σ' F' H' e' => h σ' F' H' (e.tr e')
/-- what is handed back does not lean on the environment, nor on what would come next -/
theorem tS_some {K : PySem.W.Frag} {D D' : Ends} {F : Hp} {d : PyData} {Γ Γ' : List En} (h : EndOk K b rl D Γ F (some d)) (hr : D'.rt = D.rt) {F1 : Hp} (e : Ex F F1) : EndOk K b rl D' Γ' F1 (some d) := fun v σ' F' H' e' fz dq => by
  rw [hr]
  exact h v σ' F' H' (e.tr e') fz dq
theorem xb_nil : XB X b rl [] Γ (none : Option β) Γ := PSs.wk pss_nil fun D σ H ⟨F, ok, kk⟩ => kk σ F H (Ex.rf F) ok
theorem xb_seq (h1 : XS X b rl st Γ (none : Option β) Γ1) (h2 : XB X b rl rest Γ1 o Γ2) : XB X b rl (st :: rest) Γ o Γ2 :=
  PSs.wk (pss_cons h1 h2) fun D σ H ⟨F, ok, kk⟩ => ⟨F, ok, fun σ' F' H' e ok' => ⟨F', ok', tS_end kk e⟩⟩
theorem xb_one (h1 : XS X b rl st Γ o Γ1) : XB X b rl [st] Γ o Γ1 := pss_one h1
theorem xb_sub (h : XB X b rl body Γ' o Γ1) (s : Sub Γ Γ') : XB X b rl body Γ o Γ1 := PSs.wk h fun D σ H ⟨F, ok, kk⟩ => ⟨F, ok.sub s, kk⟩
theorem xb_end (h : XB X b rl body Γ o Γ1) (s : Sub Γ1 Γ2) : XB X b rl body Γ o Γ2 := PSs.wk h fun D σ H ⟨F, ok, kk⟩ => ⟨F, ok, by
  cases o with
  | some d => exact kk
  | none => exact fun σ' F' H' e ok' => kk σ' F' H' e (ok'.sub s)⟩
theorem xb_eq (h : XB X b rl body Γ o1 Γ1) (q : o1 = o2) : XB X b rl body Γ o2 Γ1 := q ▸ h
theorem xb_envEq (h : XB X b rl body Γ o Γ1) (q : Γ1 = Γ2) : XB X b rl body Γ o Γ2 := q ▸ h
theorem xb_freeze {ia : Py α} {xs : List α} {j : Nat} (hj : Γ[j]? = some (.res (ownR α k xs))) (h : XB X b rl body (Γ.set j (.dat (List α) pyList k xs)) o Γ1) : XB X b rl body Γ o Γ1 :=
  PSs.wk h fun D σ H ⟨F, ok, kk⟩ => by
    obtain ⟨F', e, ok'⟩ := ok.freeze hj
    exact ⟨F', ok', tS_end kk e⟩
theorem xb_ret {Γr : List En} (hR : b.R = Γr) (s : Wk Γ Γr) (h : XE X b e Γ (.st rl) r) : XB X b rl (.Return (some e) pos :: rest) Γ (some r) Γ' :=
  PSs.wk (pss_cons (ps_ret h) pss_never) fun D σ H ⟨F, ok, kk⟩ => ⟨F, ok, fun v F' H' g d => kk v σ F' H' g.f (hR ▸ s _ _ _ _ _ (ok.gr g)) d⟩
theorem xb_retN {Γr : List En} (hR : b.R = Γr) (s : Wk Γ Γr) : XB X b rl (.Return none pos :: rest) Γ (some ()) Γ' :=
  PSs.wk (pss_cons ps_retN pss_never) fun D σ H ⟨F, ok, kk⟩ => kk .non σ F H (Ex.rf F) (hR ▸ s _ _ _ _ _ ok) .non
/-- if t: body (returns), then rest -/
theorem xb_ifr (ht : XT X b t Γ c) (h1 : c = true → XB X b rl body Γ (some r1) Γ1) (h2 : c = false → XB X b rl rest Γ (some r2) Γ2) : XB X b rl (.If t body [] pos :: rest) Γ (some (cond c r1 r2)) Γ2 := by
  cases c with
  | true => exact PSs.wk (pss_cons (ps_if ht (h1 rfl) (pss_never)) pss_never) fun D σ H ⟨F, ok, kk⟩ => ⟨F, ok, fun F' H' g => iteT ⟨F', ok.gr g, tS_some (Γ' := Γ1) kk rfl g.f⟩⟩
  | false => exact PSs.wk (pss_cons (ps_if ht (u := tNext) pss_never pss_nil) (h2 rfl)) fun D σ H ⟨F, ok, kk⟩ => ⟨F, ok, fun F' H' g => iteF ⟨F', ok.gr g, tS_end kk g.f⟩⟩
/-- if t: body, then rest, the whole left open: body may return or not -/
theorem xb_ifo (ht : XT X b t Γ c) (h1 : c = true → XB X b rl body Γ (some r1) Γ1) (h2 : c = false → XB X b rl rest Γ o Γ2) : XB X b rl (.If t body [] pos :: rest) Γ (cond c (some r1) o) Γ2 := by
  cases c with
  | true => exact PSs.wk (pss_cons (ps_if ht (h1 rfl) (pss_never)) pss_never) fun D σ H ⟨F, ok, kk⟩ => ⟨F, ok, fun F' H' g => iteT ⟨F', ok.gr g, tS_some (Γ' := Γ1) kk rfl g.f⟩⟩
  | false => exact PSs.wk (pss_cons (ps_if ht (u := tNext) pss_never pss_nil) (h2 rfl)) fun D σ H ⟨F, ok, kk⟩ => ⟨F, ok, fun F' H' g => iteF ⟨F', ok.gr g, tS_end kk g.f⟩⟩
/-- a test that is known -/
theorem xb_if0 (ht : XT X b t Γ c) (hc : c = false) (h2 : XB X b rl rest Γ o Γ2) : XB X b rl (.If t body [] pos :: rest) Γ o Γ2 := by
  subst hc
  exact PSs.wk (pss_cons (ps_if ht (u := tNext) pss_never pss_nil) h2) fun D σ H ⟨F, ok, kk⟩ => ⟨F, ok, fun F' H' g => iteF ⟨F', ok.gr g, tS_end kk g.f⟩⟩
theorem xb_if1 (ht : XT X b t Γ c) (hc : c = true) (h2 : XB X b rl body Γ (some r) Γ2) : XB X b rl (.If t body els pos :: rest) Γ (some r) Γ2 := by
  subst hc
  exact PSs.wk (pss_cons (ps_if ht h2 pss_never) pss_never) fun D σ H ⟨F, ok, kk⟩ => ⟨F, ok, fun F' H' g => iteT ⟨F', ok.gr g, tS_some (Γ' := Γ2) kk rfl g.f⟩⟩
/-- both ways go on -/
theorem xs_if (ht : XT X b t Γ c) (h1 : c = true → XB X b rl body Γ (none : Option β) Γ') (h2 : c = false → XB X b rl els Γ (none : Option β) Γ') : XS X b rl (.If t body els pos) Γ (none : Option β) Γ' := by
  cases c with
  | true => exact PS.wk (ps_if ht (h1 rfl) pss_never) fun D σ H ⟨F, ok, kk⟩ => ⟨F, ok, fun F' H' g => iteT ⟨F', ok.gr g, fun σ2 F2 H2 e => kk σ2 F2 H2 (g.f.tr e)⟩⟩
  | false => exact PS.wk (ps_if ht pss_never (h2 rfl)) fun D σ H ⟨F, ok, kk⟩ => ⟨F, ok, fun F' H' g => iteF ⟨F', ok.gr g, fun σ2 F2 H2 e => kk σ2 F2 H2 (g.f.tr e)⟩⟩
/-- x = e; any target -/
theorem xs_asg {js : List Nat} (h : XE X b e Γ (.st k) p) (hg : XG X b tg Γ k p js Γ') (hs : swapsWithSole [tg] e pos.line X.env = pure false := by rfl) (hw : swappedStores [tg] e X.env = pure none := by rfl)
    (h1 : (assignEach [tg] X.env).map (·.2) = [assign tg X.env] := by rfl) : XS X b rl (.Assign [tg] e pos) Γ (none : Option β) Γ' :=
  PS.wk (ps_asg h hg hs hw h1) fun D σ H ⟨F, ok, kk⟩ => ⟨F, ok, fun v F' H' g d => ⟨F', ok.gr g, d, fun σ' ok' _ _ => kk σ' F' H' g.f ok'⟩⟩
/-- x = [..] -/
theorem xs_new {x : Str} {lpos : Pos} {j : Nat} (cf : Cf X N sc mg W) (hN : N[j]? = some x) (hx : L2.Loc sc x) (hW : W x = true) (α' : Type) [ia : Py α'] : XS X b rl (.Assign [.Name x pos'] (.List [] lpos) pos) Γ (none : Option β) (Γ.set j (.res (ownR α' true []))) := by
  have hx' : L2.Loc X.env.scope x := by rw [cf.hs]; exact hx
  refine PS.wk (ps_asg (pe_lst pa_nil) (pg_name (i := j) (by rw [cf.hN]; exact cf.nd) (by rw [cf.hN]; exact hN) hx' (cf.fn x hW))) fun D σ H ⟨F, ok, kk⟩ => ?_
  refine ⟨Nat.zero_le _, fun l hl => kk _ F (upd H l (.lst [])) (Ex.rf F) ?_⟩
  have hF : F l = none := ok.fr.h.no hl
  refine ok.newR (F' := F) (H' := upd H l (.lst [])) (r := ownR α' true []) (A := fun m => m = l) ⟨Ex.rf F, ok.fr.h.tr (Ex.nw hl), Ex.nw hl, fun _ _ => rfl⟩ (fun m hm => ?_) ⟨l, [], rfl, fun m => Iff.rfl, upd_same, Nat.zero_le _, .nil⟩ j
  have hm' : m = l := hm
  subst hm'
  exact ⟨hl, by rw [upd_same]; simp, hF⟩
/-- x = [a, b, ..], one's own -/
theorem xs_newL {x : Str} {lpos : Pos} {j : Nat} {es : List Expr} {xs : List α} (cf : Cf X N sc mg W) (hN : N[j]? = some x) (hx : L2.Loc sc x) (hW : W x = true) (ha : XA X b es Γ ((xs.map Py.enc).map fun d => (Lv.st k, d))) (hz : Nat.ble xs.length 1000 = true := by rfl)
    (hs : swapsWithSole [.Name x pos'] (.List es lpos) pos.line X.env = pure false := by rfl) (hw : swappedStores [.Name x pos'] (.List es lpos) X.env = pure none := by rfl) : XS X b rl (.Assign [.Name x pos'] (.List es lpos) pos) Γ (none : Option β) (Γ.set j (.res (ownR α k xs))) := by
  have hx' : L2.Loc X.env.scope x := by rw [cf.hs]; exact hx
  refine PS.wk (ps_asg (pe_lst ha) (pg_name (i := j) (by rw [cf.hN]; exact cf.nd) (by rw [cf.hN]; exact hN) hx' (cf.fn x hW)) hs hw) fun D σ H ⟨F, ok, kk⟩ => ?_
  refine ⟨F, ok, fun vs F1 H1 g1 d1 => ?_⟩
  have d2 : DqAll (sel2 b.B F1 k) vs (xs.map Py.enc) := dql_all d1
  have hz' : vs.length ≤ sizeLine := by rw [dqa_len d2, List.length_map]; exact line_of hz
  have ok1 := ok.gr g1
  refine ⟨hz', fun l hl => kk _ F1 (upd H1 l (.lst vs)) g1.f ?_⟩
  have hF : F1 l = none := g1.h.no hl
  refine ok1.newR (F' := F1) (H' := upd H1 l (.lst vs)) (r := ownR α k xs) (A := fun m => m = l) ⟨Ex.rf F1, g1.h.tr (Ex.nw hl), Ex.nw hl, fun _ _ => rfl⟩ (fun m hm => ?_) ⟨l, vs, rfl, fun m => Iff.rfl, upd_same, hz', d2⟩ j
  have hm' : m = l := hm
  subst hm'
  exact ⟨hl, by rw [upd_same]; simp, hF⟩
/-- an own list as it stands -/
theorem xe_own {x : Str} {i : Nat} {ia : Py α} {xs : List α} (cf : Cf X N sc mg W) (hN : N[i]? = some x) (hv : Vis sc x) (hΓ : Γ[i]? = some (.res (ownR α k xs))) (hd : (x == ("__debug__" : Str)) = false := by decide) (hcd : (x == ("__classdict__" : Str)) = false := by decide) :
    XE X b (.Name x pos) Γ .bor xs := by
  refine PE.wk (pe_var (i := i) (by rw [cf.hN]; exact hN) (by rw [cf.hs]; exact hv) hd hcd) fun σ H Q ⟨F, ok, kq⟩ => ?_
  obtain ⟨v, A, hs, ⟨l, vs, rfl, hA, hl, hz, d⟩, _⟩ := ok.mut hΓ
  exact ⟨_, hs, kq _ F H (Grow.rf ok.fr.h) (.lst (.inl hl) hz (dqa_mo ((sel2_le k).tr ok.fr.h) _ _ d))⟩
/-- x.append(e) -/
theorem xs_app {x : Str} {j : Nat} {ia : Py α} {xs : List α} {apos cpos p1 : Pos} (cf : Cf X N sc mg W) (hN : N[j]? = some x) (hv : Vis sc x) (hΓ : Γ[j]? = some (.res (ownR α k xs))) (he : XE X b e Γ (.st k) p) (hz : xs.length < 1000000) (hd : (x == ("__debug__" : Str)) = false := by decide) (hcd : (x == ("__classdict__" : Str)) = false := by decide)
    (hbase : attributeBase (.Name x p1) "append" X.env (eval (.Name x p1) X.env) = eval (.Name x p1) X.env := by rfl)
    (hfew : ((backTo cpos (starEach [e] X.env)).all (fun x => !x.1) && (backToKw cpos (keywordEach [] X.env)).all (fun x => x.1.isSome) && decide (([e] : List Expr).length + ([] : List Keyword).length + (if ([] : List Keyword).isEmpty then 0 else 1) < 30)) = true := by rfl)
    (hline : (apos.endLine == cpos.line) = true := by rfl) (hs : starEach [e] X.env = [(false, eval e X.env)] := by rfl) (hsw : swapsWith (.Call (.Attribute (.Name x p1) "append" apos) [e] [] cpos) none pos.line X.env = pure false := by rfl) :
    XS X b rl (.Expr (.Call (.Attribute (.Name x p1) "append" apos) [e] [] cpos) pos) Γ (none : Option β) (Γ.set j (.res (ownR α k (xs ++ [p])))) := by
  refine PS.wk (ps_expr (pe_bm PySem.F.plainAttrs_list PySem.F.slot_list_append PySem.F.type_list_append mt_append (pe_var (i := j) (by rw [cf.hN]; exact hN) (by rw [cf.hs]; exact hv) hd hcd) (xa_cons he xa_nil hs) hbase hfew hline hs) hsw) fun D σ H ⟨F, ok, kk⟩ => ?_
  obtain ⟨v, A, hσ, ⟨l, vs, rfl, hA, hl, hz', d⟩, hAl, _⟩ := ok.mut hΓ
  refine ⟨_, hσ, .inl ⟨rfl, vs, .inl (.inl hl)⟩, F, ok, fun ws F1 H1 g1 d1 => ?_⟩
  obtain ⟨y, rfl, d1'⟩ := dql1 d1
  have ok1 := ok.gr g1
  obtain ⟨v', A', hσ', ⟨l', vs', rfl, hA', hl', hz2, d2⟩, hAl', mu⟩ := ok1.mut hΓ
  rw [hσ] at hσ'
  cases hσ'
  have lv : vs'.length < 1000000 := by rw [dqa_len d2, List.length_map]; exact hz
  refine ⟨l, vs', y, rfl, rfl, hl', Nat.lt_of_lt_of_le lv (by decide), kk _ F1 _ g1.f (mu _ _ (fun m hm => upd_ne fun z => hm ((hA' m).mpr z)) (fun m hm => ?_) ⟨l, vs' ++ [y], rfl, hA', upd_same, ?_, ?_⟩)⟩
  · rw [(hA' m).mp hm, upd_same]; exact fun z => by cases z
  · rw [List.length_append]; exact Nat.le_trans (show vs'.length + [y].length ≤ 1000000 by simp; omega) (by decide)
  · rw [List.map_append]
    exact dqa_snoc d2 d1'
end
end Zk

namespace Zk
open PySem PySem.Spec PyProof.Rows L2

/-! ### for -/
def loopR {S α β : Type} (o : S → α → Option β) (step : S → α → S) : List α → S → Option β × S
  | [], s => (none, s)
  | x :: xs, s => match o s x with
    | some r => (some r, s)
    | none => loopR o step xs (step s x)
theorem loopR_none {S α β : Type} (step : S → α → S) : ∀ (xs : List α) (s : S), loopR (fun _ _ => (none : Option β)) step xs s = (none, xs.foldl step s)
  | [], s => rfl
  | x :: xs, s => by
    show loopR (fun _ _ => (none : Option β)) step xs (step s x) = _
    rw [loopR_none step xs]
    rfl
section
variable {X : Cx} {b : Bs} {N : List Str} {sc : Scope} {mg : Str → Option Value} {W : Str → Bool} {Γ Γ' Γ1 Γ2 : List En} {k rl : Bool} {lv : Lv} {pos pos' : Pos} {e t tg it : Expr} {st : Stmt} {rest body els : List Stmt}
variable {S α β : Type} [Py α] [Py β]
theorem xs_for {Γs : S → List En} {xs : List α} {step : S → α → S} {o : S → α → Option β} {Γt : S → α → List En} {js : List Nat} (Iv : Nat → S → Prop) (s0 : S) (cf : Cf X N sc mg W) (hi : XI X b tg it Γ k xs) (hΓ : Sub Γ (Γs s0)) (hI0 : Iv 0 s0)
    (hg : ∀ s x, x ∈ xs → XG X b tg (Γs s) k x js (Γt s x))
    (hb : ∀ i s x, xs[i]? = some x → Iv i s → XB X b rl body (Γt s x) (o s x) (Γs (step s x)))
    (hI : ∀ i s x, xs[i]? = some x → Iv i s → o s x = none → Iv (i + 1) (step s x))
    (hs : ∀ x, foldedSetIterable it X.env x = pure x := by intro _; rfl) :
    XS X b rl (.For tg it body [] pos) Γ (loopR o step xs s0).1 (Γs (loopR o step xs s0).2) := by
  refine PS.wk (ps_for
    (g := fun v σ H Q => ∃ s x, x ∈ xs ∧ tG' X.K b (Γs s) k (Py.enc x) js (Γt s x) v σ H Q)
    (tb := fun D σ H => ∃ i s x, (xs[i]? = some x ∧ Iv i s) ∧ tS X.K b rl (Γt s x) ((o s x).map Py.enc) (Γs (step s x)) D σ H)
    cf.pass cf.calm hi ⟨fun pins s' σ H v u Q I r h => ?_⟩ ⟨fun pins s' σ H D I h => ?_⟩ hs) ?_
  · obtain ⟨s, x, hx, h⟩ := h
    exact (hg s x hx).run _ _ _ _ _ _ _ I r h
  · obtain ⟨i, s, x, ⟨hx, hv⟩, h⟩ := h
    exact (hb i s x hx hv).run _ _ _ _ _ I h
  · rintro D σ H ⟨F0, ok0, kk⟩
    refine ⟨F0, ok0, fun F1 H1 J g1 J1 hz => ?_⟩
    have hlen : (xs.map Py.enc).length = xs.length := List.length_map ..
    let Pv : Nat → L2.St → Hp → Prop := fun i σ H => i ≤ xs.length ∧ ∃ F s, Ex F1 F ∧ EnvOk X.K b F H σ (Γs s) ∧ Iv i s ∧ loopR o step (xs.drop i) s = loopR o step xs s0
    refine ⟨fun i m σ H => m = xs.length - i ∧ Pv i σ H, ⟨xs.length, by simp, Nat.zero_le _, F1, s0, Ex.rf F1, (ok0.gr g1).sub hΓ, hI0, rfl⟩, ?_⟩
    rintro i m σ H ⟨rfl, hi', F, s, eF, ok, hv, hrun⟩
    by_cases hlt : i < xs.length
    · refine .inr ?_
      have hx : xs[i]? = some xs[i] := List.getElem?_eq_getElem hlt
      have hxm : xs[i] ∈ xs := List.getElem_mem hlt
      have hd : (xs.map Py.enc)[i]? = some (Py.enc xs[i]) := by rw [List.getElem?_map, hx]; rfl
      have hdr : xs.drop i = xs[i] :: xs.drop (i + 1) := List.drop_eq_getElem_cons hlt
      refine ⟨J1.go i _ F H hd eF ok.fr, Pv (i + 1), fun σ' H' h' => ⟨xs.length - (i + 1), by omega, rfl, h'⟩, fun xv H2 hy => ?_⟩
      obtain ⟨F2, g2, d2⟩ := J1.yld i _ F H xv H2 hd eF ok.fr hy
      refine ⟨s, xs[i], hxm, F2, ok.gr g2, d2, fun σ2 ok2 l2 o2 => ⟨i, s, xs[i], ⟨hx, hv⟩, F2, ok2, ?_⟩⟩
      have e2 : Ex F1 F2 := eF.tr g2.f
      rw [hdr] at hrun
      cases ho : o s xs[i] with
      | some r =>
        have hres : loopR o step xs s0 = (some r, s) := by rw [← hrun]; show (match o s xs[i] with | some r => (some r, s) | none => _) = _; rw [ho]
        rw [hres] at kk
        exact tS_some (Γ' := Γs (step s xs[i])) kk rfl (g1.f.tr e2)
      | none =>
        have hres : loopR o step (xs.drop (i + 1)) (step s xs[i]) = loopR o step xs s0 := by rw [← hrun]; show _ = (match o s xs[i] with | some r => (some r, s) | none => _); rw [ho]
        exact fun σ' F' H' e' ok' => ⟨by omega, F', _, e2.tr e', ok', hI i s _ hx hv ho, hres⟩
    · refine .inl ⟨J1.stop i F H (by rw [hlen]; omega) eF ok.fr, ?_⟩
      rw [List.drop_eq_nil_of_le (by omega)] at hrun
      have hres : loopR o step xs s0 = (none, s) := hrun.symm
      rw [hres] at kk
      exact kk σ F H (g1.f.tr eF) ok
/-- a loop that never hands back -/
theorem xs_forN {Γs : S → List En} {xs : List α} {step : S → α → S} {Γt : S → α → List En} {js : List Nat} (Iv : Nat → S → Prop) (s0 : S) (cf : Cf X N sc mg W) (hi : XI X b tg it Γ k xs) (hΓ : Sub Γ (Γs s0)) (hI0 : Iv 0 s0)
    (hg : ∀ s x, x ∈ xs → XG X b tg (Γs s) k x js (Γt s x))
    (hb : ∀ i s x, xs[i]? = some x → Iv i s → XB X b rl body (Γt s x) (none : Option β) (Γs (step s x)))
    (hI : ∀ i s x, xs[i]? = some x → Iv i s → Iv (i + 1) (step s x))
    (hs : ∀ x, foldedSetIterable it X.env x = pure x := by intro _; rfl) :
    XS X b rl (.For tg it body [] pos) Γ (none : Option β) (Γs (xs.foldl step s0)) := by
  have h := xs_for (o := fun _ _ => (none : Option β)) (step := step) (pos := pos) Iv s0 cf hi hΓ hI0 hg hb (fun i s x hx hv _ => hI i s x hx hv) hs
  rwa [loopR_none] at h
/-- a loop that may hand back, then rest -/
theorem xb_forr {Γs : S → List En} {xs : List α} {step : S → α → S} {o : S → α → Option β} {r2 : S → β} {Γt : S → α → List En} {Γe : List En} {js : List Nat} (Iv : Nat → S → Prop) (s0 : S) (cf : Cf X N sc mg W) (hi : XI X b tg it Γ k xs) (hΓ : Sub Γ (Γs s0)) (hI0 : Iv 0 s0)
    (hg : ∀ s x, x ∈ xs → XG X b tg (Γs s) k x js (Γt s x))
    (hb : ∀ i s x, xs[i]? = some x → Iv i s → XB X b rl body (Γt s x) (o s x) (Γs (step s x)))
    (hI : ∀ i s x, xs[i]? = some x → Iv i s → o s x = none → Iv (i + 1) (step s x))
    (hr : ∀ s, (loopR o step xs s0).1 = none → s = (loopR o step xs s0).2 → XB X b rl rest (Γs s) (some (r2 s)) Γe)
    (hs : ∀ x, foldedSetIterable it X.env x = pure x := by intro _; rfl) :
    XB X b rl (.For tg it body [] pos :: rest) Γ (some ((loopR o step xs s0).1.getD (r2 (loopR o step xs s0).2))) Γe := by
  have h := xs_for (pos := pos) Iv s0 cf hi hΓ hI0 hg hb hI hs
  revert h hr
  generalize loopR o step xs s0 = z
  obtain ⟨z1, z2⟩ := z
  intro hr h
  cases z1 with
  | none => exact xb_seq h (hr _ rfl rfl)
  | some r => exact PSs.wk (pss_cons h pss_never) fun D σ H ⟨F, ok, kk⟩ => ⟨F, ok, tS_some (Γ' := Γs z2) kk rfl (Ex.rf F)⟩

/-! ### while: R tells the run from a state, m falls -/
theorem xb_while {Γs : S → List En} {c : S → Bool} {step : S → S} {o : S → Option β} {R : S → β} {r2 : S → β} {Γe : List En} (Iv : S → Prop) (m : S → Nat) (s0 : S) (cf : Cf X N sc mg W) (hΓ : Sub Γ (Γs s0)) (hI0 : Iv s0)
    (ht : ∀ s, Iv s → XT X b t (Γs s) (c s)) (hb : ∀ s, Iv s → c s = true → XB X b rl body (Γs s) (o s) (Γs (step s)))
    (hI : ∀ s, Iv s → c s = true → o s = none → Iv (step s) ∧ m (step s) < m s)
    (hR : ∀ s, Iv s → R s = cond (c s) ((o s).getD (R (step s))) (r2 s))
    (hr : ∀ s, Iv s → c s = false → XB X b rl rest (Γs s) (some (r2 s)) Γe) :
    XB X b rl (.While t body [] pos :: rest) Γ (some (R s0)) Γe := by
  refine PSs.wk (pss_cons (ps_while
    (tc := fun σ H Q => ∃ s, Iv s ∧ tT X.K b (Γs s) (c s) σ H Q)
    (tb := fun D σ H => ∃ s, (Iv s ∧ c s = true) ∧ tS X.K b rl (Γs s) ((o s).map Py.enc) (Γs (step s)) D σ H)
    cf.pass ⟨fun pins s' σ H Q I h => ?_⟩ ⟨fun pins s' σ H D I h => ?_⟩)
    (u := fun D σ H => ∃ s, (Iv s ∧ c s = false) ∧ tS X.K b rl (Γs s) (some (Py.enc (r2 s))) Γe D σ H) ⟨fun pins s' σ H D I h => ?_⟩) ?_
  · obtain ⟨s, hv, h⟩ := h
    exact (ht s hv).run _ _ _ _ _ I h
  · obtain ⟨s, ⟨hv, hc⟩, h⟩ := h
    exact (hb s hv hc).run _ _ _ _ _ I h
  · obtain ⟨s, ⟨hv, hc⟩, h⟩ := h
    exact (hr s hv hc).run _ _ _ _ _ I h
  · rintro D σ H ⟨F0, ok0, kk⟩
    refine ⟨fun n σ H => ∃ F s, Ex F0 F ∧ EnvOk X.K b F H σ (Γs s) ∧ Iv s ∧ n = m s ∧ R s = R s0, ⟨m s0, F0, s0, Ex.rf F0, ok0.sub hΓ, hI0, rfl, rfl⟩, ?_⟩
    rintro n σ H ⟨F, s, eF, ok, hv, rfl, hrun⟩
    refine ⟨s, hv, F, ok, fun F1 H1 g1 => ?_⟩
    have hRs := hR s hv
    rw [hrun] at hRs
    cases hc : c s with
    | false =>
      rw [hc] at hRs
      refine iteF ⟨s, ⟨hv, hc⟩, F1, ok.gr g1, ?_⟩
      have hRs' : R s0 = r2 s := hRs
      rw [hRs'] at kk
      exact tS_end kk (eF.tr g1.f)
    | true =>
      rw [hc] at hRs
      refine iteT ⟨fun σ' H' => ∃ F s', Ex F0 F ∧ EnvOk X.K b F H' σ' (Γs s') ∧ Iv s' ∧ m s' < m s ∧ R s' = R s0, fun σ' H' ⟨F', s', a1, a2, a3, a4, a5⟩ => ⟨m s', a4, F', s', a1, a2, a3, rfl, a5⟩, s, ⟨hv, hc⟩, F1, ok.gr g1, ?_⟩
      cases ho : o s with
      | some r =>
        rw [ho] at hRs
        have hRs' : R s0 = r := hRs
        rw [hRs'] at kk
        exact tS_some (Γ' := Γs (step s)) kk rfl (eF.tr g1.f)
      | none =>
        rw [ho] at hRs
        have hRs' : R s0 = R (step s) := hRs
        obtain ⟨i1, i2⟩ := hI s hv hc ho
        exact fun σ' F' H' e' ok' => ⟨F', step s, (eF.tr g1.f).tr e', ok', i1, i2, hRs'.symm⟩
end

/-! ### defs -/
/-- the text that runs -/
structure Tx where
  P : Program
  w : World
  K : PySem.W.Frag
  mg : Str → Option Value
  base : Heap
structure At (X : Cx) (t : Tx) (k : Nat) : Prop where
  hP : X.prog = t.P
  hw : X.w = t.w
  hK : X.K = t.K
  hm : X.mg = t.mg
  hb : X.base = t.base
  hr : Room k X.A
theorem IsBlk.to {X X' : Cx} {t : Tx} {k : Nat} {scope : Scope} (h : IsBlk X scope X') (a : At X t k) : At X' t k := by
  obtain ⟨s, H, C, cl, fp, rfl⟩ := h
  exact ⟨a.hP, a.hw, a.hK, a.hm, a.hb, a.hr⟩
theorem At.mono {X : Cx} {t : Tx} {j k : Nat} (a : At X t k) (h : j ≤ k) : At X t j := ⟨a.hP, a.hw, a.hK, a.hm, a.hb, a.hr.mono h⟩
inductive ArgOk (F : Hp) : List V → List En → Prop where
  | nil : ArgOk F [] []
  | cons {v : V} {vs : List V} {α : Type} {i : Py α} {a : α} {Γ : List En} : Dq F v (i.enc a) → ArgOk F vs Γ → ArgOk F (v :: vs) (.dat α i false a :: Γ)
theorem ArgOk.len {F : Hp} {vs : List V} {Γ : List En} (h : ArgOk F vs Γ) : vs.length = Γ.length := by
  induction h with
  | nil => rfl
  | cons _ _ ih => simp [ih]
theorem ArgOk.at {F : Hp} {vs : List V} {Γ : List En} (h : ArgOk F vs Γ) : ∀ (i : Nat) (e : En), Γ[i]? = some e → ∃ v α ia a, vs[i]? = some v ∧ e = .dat α ia false a ∧ Dq F v (ia.enc a) := by
  induction h with
  | nil => intro i e h; simp at h
  | cons d _ ih =>
    intro i e h
    cases i with
    | zero => simp at h; subst h; exact ⟨_, _, _, _, by simp, rfl, d⟩
    | succ i => simpa using ih i e (by simpa using h)
/-- a def's promise by data: i picks the arguments, ins what they stand for, out what is handed back; fresh: all of it new -/
def spI {ι : Type} (rl : Bool) (ins : ι → List En) (out : ι → PyData) : Sp := fun vs H Q _ => ∃ F i, Ex F H ∧ ArgOk F vs (ins i) ∧ ∀ v F' H', Grow F H F' H' → Dq (sel2 H F' rl) v (out i) → Q v H'
/-- .. as data, wherever they live -/
inductive Fit : List (Lv × PyData) → List En → Prop where
  | nil : Fit [] []
  | cons {k : Bool} {α : Type} {i : Py α} {a : α} {ds : List (Lv × PyData)} {Γ : List En} : Fit ds Γ → Fit ((.st k, i.enc a) :: ds) (.dat α i false a :: Γ)
theorem Fit.ok {b : Bs} {F H : Hp} {vs : List V} {ds : List (Lv × PyData)} {Γ : List En} (f : Fit ds Γ) (d : DqL b F H vs ds) : ArgOk F vs Γ := by
  induction f generalizing vs with
  | nil => cases d; exact .nil
  | cons f ih =>
    cases d with
    | cons a r => exact .cons (dq_mo (sel2_le _) _ _ a) (ih r)
section
variable {t : Tx} {ι : Type} {rl : Bool} {ins : ι → List En} {out : ι → PyData} {N ps : List Str} {k : Nat} {f : Addr} {fd : FuncData} {x qual : Str} {st : Stmt}
theorem start_env {R : List En} {X : Cx} {H F : Hp} {vs : List V} {Γ : List En} (e : Ex F H) (a : ArgOk F vs Γ) (hN : Γ.length ≤ N.length) : EnvOk X.K ⟨H, F, R⟩ F H (L2.start N vs) (Γ ++ List.replicate (N.length - Γ.length) .no) := by
  have hl := a.len
  refine ⟨⟨Ex.rf F, e, Ex.rf H, fun _ _ => rfl⟩, ?_, fun _ _ => False, fun _ _ _ h => h.elim, fun _ _ h => h.elim, fun i en he => ?_⟩
  · unfold L2.start
    simp only [List.length_append, List.length_map, List.length_replicate]
    omega
  · unfold L2.start
    by_cases hi : i < Γ.length
    · rw [List.getElem?_append_left hi] at he
      obtain ⟨v, α, ia, x, hv, rfl, d⟩ := a.at i en he
      exact ⟨some v, by rw [List.getElem?_append_left (by simpa using (by omega : i < vs.length)), List.getElem?_map, hv]; rfl, v, rfl, d⟩
    · rw [List.getElem?_append_right (by omega)] at he
      have hi2 : i - Γ.length < N.length - Γ.length := by simpa using (List.getElem?_eq_some_iff.mp he).1
      rw [List.getElem?_replicate, if_pos hi2] at he
      cases he
      refine ⟨none, ?_, True.intro⟩
      rw [List.getElem?_append_right (by rw [List.length_map]; omega), List.getElem?_replicate, List.length_map, if_pos (by omega)]
theorem fn_ok (Fn : Fun t.K x qual st f fd) (S : FnScope N ps (defScope st)) (hl : ∀ i, (ins i).length = ps.length)
    (body : ∀ (X : Cx) (b : Bs) (i : ι), Cf X N (defScope st) t.mg (fun _ => true) → At X t k → b.R = List.replicate N.length .no → ∃ Γ', PSs X (defBody st) (tS X.K b rl (ins i ++ List.replicate (N.length - ps.length) .no) (some (out i)) Γ')) :
    FnOk t.P t.w t.K t.mg t.base CX0 (k + 1) f fd ps (spI rl ins out) := by
  have hpl : ps.length ≤ N.length := by have := congrArg List.length S.pre; rw [List.length_take] at this; omega
  refine Fn.ok S (fun vs H Q E ⟨F, i, e, a, _⟩ => a.len.trans (hl i)) (fun cdv A outer s H vs Q E hr h => ?_)
  obtain ⟨F, i, e, a, kk⟩ := h
  obtain ⟨Γ', h⟩ := body (cxOf CX0 t.P t.w t.K t.mg t.base N qual (defScope st) f cdv A outer s H E).nox ⟨H, F, List.replicate N.length .no⟩ i
    ⟨rfl, rfl, rfl, S.nd, rfl, PassesOwn.never, (by have := hr.un; show (A.deeper _).units + 65 < _; omega), fun _ _ => .inl rfl⟩ ⟨rfl, rfl, rfl, rfl, rfl, hr⟩ rfl
  refine ⟨_, h, F, ?_, fun v σ' F' H' e' ok' d => kk v F' H' ⟨ok'.fr.f, ok'.fr.h, ok'.fr.b, ok'.fr.n⟩ d⟩
  rw [← hl i] at hpl ⊢
  exact start_env e a hpl
variable {X : Cx} {b : Bs} {sc : Scope} {mg : Str → Option Value} {W : Str → Bool} {Γ : List En} {pos pp : Pos} {e : Expr} {es : List Expr} {CXX : CXT} {j : Nat}
theorem fn_at {sp : Sp} (a : At X t k) (G : FnOk t.P t.w t.K t.mg t.base CXX j f fd ps sp) : FnOk X.prog X.w X.K X.mg X.base CXX j f fd ps sp := by
  rw [a.hP, a.hw, a.hK, a.hm, a.hb]
  exact G
theorem xe_call {α : Type} [Py α] {p : α} {ds : List (Lv × PyData)} (c : Cf X N sc mg W) (a : At X t k) (G : FnOk t.P t.w t.K t.mg t.base CX0 j f fd ps (spI rl ins out)) (hj : j ≤ k) (hg : sc.names.lookup x = some .globalImplicit) (hm : t.mg x = some (.ref f)) (hk : PySem.W.keepIn t.K (.ref f) = true) (hb : Binds t.K fd ps [])
    (i : ι) (ha : XA X b (e :: es) Γ ds) (fit : Fit ds (ins i)) (hp : out i = Py.enc p := by rfl) (hdb : (x == ("__debug__" : Str)) = false := by decide)
    (he : starEach (e :: es) X.env = (false, eval e X.env) :: starEach es X.env := by rfl) (hpl : (backTo pos (starEach es X.env)).any (·.1) = false := by rfl) : XE X b (.Call (.Name x pp) (e :: es) [] pos) Γ (.st rl) p :=
  PE.wk (pe_call (fn_at a G) (a.hr.mono hj) (show X.env.scope.names.lookup x = _ by rw [c.hs]; exact hg) (by rw [a.hm]; exact hm) (by rw [a.hK]; exact hk) (by rw [a.hK]; exact hb) .nil pass0 ha hdb he hpl) fun σ H Q ⟨F, ok, kk⟩ => ⟨F, ok, fun vs F1 H1 g1 d1 => by
    have fz := (ok.gr g1).fr
    refine ⟨F1, i, g1.h, ?_, fun v F' H' g d => kk v F' H' (g1.tr g) ?_⟩
    · rw [List.append_nil]
      exact fit.ok d1
    · rw [hp] at d
      refine dq_mo (fun l o q => ?_) _ _ d
      cases rl with
      | false => exact q
      | true =>
        show sel2 b.B F' true l = some o
        have q : sel2 H1 F' true l = some o := q
        simp only [sel2] at q ⊢
        cases z : H1 l with
        | none => rw [z] at q; rw [fz.b.no z]; exact q
        | some u => rw [z] at q; cases q⟩
end
end Zk

namespace Zk
open PySem PySem.Spec PyProof.Rows L2

section
variable {X : Cx} {b : Bs} {N : List Str} {sc scope : Scope} {mg : Str → Option Value} {W : Str → Bool} {Γ Γ' Γ1 Γ2 : List En} {k k' rl : Bool} {lv la lb lc : Lv} {pos pos' py : Pos} {e e1 e2 e3 t tg it elt : Expr} {ifs : List Expr} {st : Stmt} {rest body els : List Stmt}
variable {α β γ δ : Type} [ia : Py α] [ib : Py β] [ic : Py γ] [id' : Py δ]
/-! ### x = [.. for ..], x captured somewhere -/
theorem sw_cell {gs : List Comprehension} {y : Str} {l : Nat} {env : Env} (hy : env.scope.names.lookup y = some .cell) : swapsWith (.ListComp elt gs scope pos) (some (.Name y py)) l env = pure false := by
  have ky : env.kindOf y = some .cell := hy
  unfold swapsWith
  simp only [ky]
  have : (some NameKind.cell == some NameKind.local) = false := by decide
  rw [this]
  simp
theorem xs_lcC {gs : List Comprehension} {p : α} {y : Str} {j : Nat} (cf : Cf X N sc mg W) (hN : N[j]? = some y) (hy : sc.names.lookup y = some .cell) (hW : W y = true) (h : XE X b (.ListComp elt gs scope pos) Γ (.st k) p) :
    XS X b rl (.Assign [.Name y py] (.ListComp elt gs scope pos) pos') Γ (none : Option β) (Γ.set j (.dat α ia k p)) :=
  xs_asg h (xg_name cf hN (.inr hy) hW) (sw_cell (l := pos'.line) (by rw [cf.hs]; exact hy)) rfl rfl
/-! ### x, y = e1, e2 -/
def isStar : Expr → Bool
  | .Starred .. => true
  | _ => false
theorem notStar : ∀ e : Expr, isStar e = false → (match e with | .Starred .. => true | _ => false) = false := by
  intro e h
  cases e <;> first | rfl | exact absurd (show true = false from h) (by decide)
theorem swap2 {x y : Str} {px pt : Pos} {kt k2 pt2} (c : Cf X N sc mg W) (hk : sc.kind = .function) (hx : sc.names.lookup x = some .local) (hy : sc.names.lookup y = some .local) (hl : (py.line == px.line) = true) (hxy : (y == x) = false)
    (hst : isStar e1 = false ∧ isStar e2 = false) (hf : [e1, e2].all (foldedForSure 8) = false) (hc : [e1, e2].all (constantsAlone 8) = false) :
    swappedStores [.Tuple [.Name x px, .Name y py] kt pt] (.Tuple [e1, e2] k2 pt2) X.env = pure (some [x, y]) := by
  have kx : X.env.kindOf x = some .local := by show X.env.scope.names.lookup x = _; rw [c.hs]; exact hx
  have ky : X.env.kindOf y = some .local := by show X.env.scope.names.lookup y = _; rw [c.hs]; exact hy
  have hb : X.env.blockKind = .function := by unfold Env.blockKind; rw [c.hs, hk]; rfl
  have a1 := notStar e1 hst.1
  have a2 := notStar e2 hst.2
  have hl' := beq_iff_eq.mp hl
  have hxy' : ¬ y = x := by simpa using hxy
  unfold swappedStores
  simp only [hb, List.any_cons, List.any_nil, a1, a2, hf, hc]
  simp [kx, ky, hl', hxy, Expr.pos, List.eraseDups, List.eraseDupsBy, List.eraseDupsBy.loop, List.filterMap_cons, a1, a2]
  rintro (h | h)
  · exact absurd (Eq.trans (Eq.symm a1) h) (by decide)
  · exact absurd (Eq.trans (Eq.symm a2) h) (by decide)
theorem xs_par {i j : Nat} {x y : Str} {px pt : Pos} {kt k2 pt2} {p : α} {q : β} (c : Cf X N sc mg W) (hi : N[i]? = some x) (hj : N[j]? = some y) (hij : i ≠ j) (hx : sc.names.lookup x = some .local) (hy : sc.names.lookup y = some .local)
    (h1 : XE X b e1 Γ (.st k) p) (h2 : XE X b e2 Γ (.st k') q) (hw : swappedStores [.Tuple [.Name x px, .Name y py] kt pt] (.Tuple [e1, e2] k2 pt2) X.env = pure (some [x, y]))
    (hs1 : starEach [e1, e2] X.env = (false, eval e1 X.env) :: starEach [e2] X.env := by rfl) (hs2 : starEach [e2] X.env = [(false, eval e2 X.env)] := by rfl) :
    XS X b rl (.Assign [.Tuple [.Name x px, .Name y py] kt pt] (.Tuple [e1, e2] k2 pt2) pos) Γ (none : Option γ) ((Γ.set i (.dat α ia k p)).set j (.dat β ib k' q)) :=
  PS.wk (ps_par c.calm (by rw [c.hN]; exact c.nd) (by rw [c.hN]; exact hi) (by rw [c.hN]; exact hj) hij (by rw [c.hs]; exact hx) (by rw [c.hs]; exact hy) (xa_cons h1 (xa_cons h2 xa_nil hs2) hs1) hw rfl) fun D σ H ⟨F, ok, kk⟩ => ⟨F, ok, fun vs F1 H1 g1 d1 => by
    obtain ⟨v, w, rfl, d, d'⟩ := dql2 d1
    exact ⟨v, w, rfl, kk _ F1 H1 g1.f (((ok.gr g1).setD d i).setD d' j)⟩⟩
/-! ### isinstance(e, T), T a built-in class -/
def tyN : PyData → String
  | .none => "NoneType"
  | .bool _ => "bool"
  | .int _ => "int"
  | .str _ => "str"
  | .list _ => "list"
  | .tuple _ => "tuple"
  | .dict _ => "dict"
def ndict : PyData → Bool
  | .dict _ => false
  | _ => true
theorem dq_ty {K : PySem.W.Frag} {H : Hp} {v : V} : ∀ {d : PyData}, ndict d = true → Dq H v d → TyX K H v (.type (tyN d))
  | .none, _, h => by cases h; exact .base .non
  | .bool _, _, h => by cases h; exact .base (.bl _)
  | .int _, _, h => by cases h; exact .base (.int _)
  | .str _, _, h => by cases h; exact .base (.str _)
  | .list _, _, h => by
    cases h with
    | lst r _ _ => rcases r with r | ⟨o, r⟩; exact .base (.lst r); exact .base (.frz r)
  | .tuple _, _, h => by
    cases h with
    | tup r _ _ => rcases r with r | ⟨o, r⟩; exact .base (.tup r); exact .fTuple r
  | .dict _, hn, _ => by cases hn
theorem xe_isi {p : α} {x y : Str} {pp py' : Pos} {n : String} {c : Bool} (cf : Cf X N sc mg W) (h : XE X b e Γ la p) (hk : kitB (tyN (Py.enc p)) n = some c) (hy : sc.names.lookup y = some .globalImplicit) (hmy : mg y = none) (hvy : bootBuiltins y = some (.type n))
    (hg : sc.names.lookup x = some .globalImplicit) (hm : mg x = none) (hv : bootBuiltins x = some (.builtin "isinstance"))
    (hn : x ≠ "__name__" := by decide) (hdb : (x == ("__debug__" : Str)) = false := by decide) (hn2 : y ≠ "__name__" := by decide) (hdb2 : (y == ("__debug__" : Str)) = false := by decide)
    (he : starEach [e, .Name y py'] X.env = (false, eval e X.env) :: starEach [.Name y py'] X.env := by rfl) (hs2 : starEach [.Name y py'] X.env = [(false, eval (.Name y py') X.env)] := by rfl) (hpl : (backTo pos (starEach [.Name y py'] X.env)).any (·.1) = false := by rfl) (hnd : ndict (Py.enc p) = true := by rfl) :
    XE X b (.Call (.Name x pp) [e, .Name y py'] [] pos) Γ lc c :=
  PE.wk (pe_callB call_isi (show X.env.scope.names.lookup x = _ by rw [cf.hs]; exact hg) (by rw [cf.hm]; exact hm) hv
    (pa_cons h (pa_cons (pe_bltn (v := .ty n) (show X.env.scope.names.lookup y = _ by rw [cf.hs]; exact hy) (by rw [cf.hm]; exact hmy) hvy rfl hn2 hdb2) pa_nil hs2) he) hn hdb he hpl)
    fun σ H Q ⟨F, ok, kk⟩ => ⟨F, ok, fun v F1 H1 g1 d1 => ⟨v, .ty n, _, _, c, rfl, .ty n, dq_ty hnd (dq_mo (sel_le g1.h _) _ _ d1), kit_ty hk, kk _ F1 H1 g1 (.bl _)⟩⟩
end

/-! ### defs by name -/
abbrev dv {α : Type} [i : Py α] (k : Bool) (a : α) : En := .dat α i k a
abbrev rv (α : Type) [i : Py α] (k : Bool) (xs : List α) : En := .res (ownR α k xs)
structure FnAt (t : Tx) (x : Str) (j : Nat) (ps : List Str) (sp : Sp) : Prop where
  ex : ∃ f fd, FnOk t.P t.w t.K t.mg t.base CX0 j f fd ps sp ∧ t.mg x = some (.ref f) ∧ PySem.W.keepIn t.K (.ref f) = true ∧ Binds t.K fd ps []
structure DefAt (t : Tx) (x : Str) (st : Stmt) : Prop where
  ex : ∃ f fd, Fun t.K x x st f fd ∧ t.mg x = some (.ref f)
section
variable {t : Tx} {x : Str} {st : Stmt} {N ps : List Str} {k j : Nat} {ι : Type} {rl : Bool} {ins : ι → List En} {out : ι → PyData}
theorem FnAt.up {sp : Sp} (G : FnAt t x j ps sp) (h : j ≤ k) : FnAt t x k ps sp := by
  obtain ⟨f, fd, g, r⟩ := G.ex
  exact ⟨f, fd, g.mono h, r⟩
theorem fn_def (D : DefAt t x st) (S : FnScope N ps (defScope st))
    (hb : ∀ (kV doc pm : Value) (an : Option Addr) (cdv ct : Value) (us : List Value), us.length = ps.length → bindArgs (PySem.W.fnOf x x (defArgs st) (defBody st) (defScope st) .none kV doc pm an cdv ct) ⟨us, []⟩ = pure (ps.zip us))
    (hl : ∀ i, (ins i).length = ps.length)
    (body : ∀ (X : Cx) (b : Bs) (i : ι), Cf X N (defScope st) t.mg (fun _ => true) → At X t k → b.R = List.replicate N.length .no → PSs X (defBody st) (tS X.K b rl (ins i ++ List.replicate (N.length - ps.length) .no) (some (out i)) [])) :
    FnAt t x (k + 1) ps (spI rl ins out) := by
  obtain ⟨f, fd, F, hm⟩ := D.ex
  exact ⟨f, fd, fn_ok F S hl fun X b i c a hR => ⟨_, body X b i c a hR⟩, hm, F.kp, F.binds hb⟩
variable {X : Cx} {b : Bs} {sc : Scope} {mg : Str → Option Value} {W : Str → Bool} {Γ : List En} {pos pp : Pos} {e : Expr} {es : List Expr}
theorem xe_fn {α : Type} [Py α] {p : α} {ds : List (Lv × PyData)} (c : Cf X N sc mg W) (a : At X t k) (G : FnAt t x j ps (spI rl ins out)) (hj : Nat.ble j k = true) (hg : sc.names.lookup x = some .globalImplicit)
    (i : ι) (ha : XA X b (e :: es) Γ ds) (fit : Fit ds (ins i)) (hp : out i = Py.enc p := by rfl) (hdb : (x == ("__debug__" : Str)) = false := by decide)
    (he : starEach (e :: es) X.env = (false, eval e X.env) :: starEach es X.env := by rfl) (hpl : (backTo pos (starEach es X.env)).any (·.1) = false := by rfl) : XE X b (.Call (.Name x pp) (e :: es) [] pos) Γ (.st rl) p := by
  obtain ⟨f, fd, g, hm, hk, hb⟩ := G.ex
  exact xe_call c a g (Nat.le_of_ble_eq_true hj) hg hm hk hb i ha fit hp hdb he hpl
end
/-! ### places in the text -/
def stB : Stmt → List Stmt
  | .For _ _ b _ _ => b
  | .While _ b _ _ => b
  | .If _ b _ _ => b
  | _ => []
def stE : Stmt → List Stmt
  | .If _ _ e _ => e
  | _ => []
def stN (l : List Stmt) (i : Nat) : Stmt := l.getD i (.Pass ⟨0, 0, 0, 0⟩)
end Zk

namespace Zk
open PySem PySem.Spec PyProof.Rows L2

theorem bt_len : bootBuiltins "len" = some (.builtin "len") := by decide +kernel
theorem bt_sum : bootBuiltins "sum" = some (.builtin "sum") := by decide +kernel
theorem bt_all : bootBuiltins "all" = some (.builtin "all") := by decide +kernel
theorem bt_any : bootBuiltins "any" = some (.builtin "any") := by decide +kernel
theorem bt_abs : bootBuiltins "abs" = some (.builtin "abs") := by decide +kernel
theorem bt_max : bootBuiltins "max" = some (.builtin "max") := by decide +kernel
theorem bt_min : bootBuiltins "min" = some (.builtin "min") := by decide +kernel
theorem bt_sorted : bootBuiltins "sorted" = some (.builtin "sorted") := by decide +kernel
theorem bt_isinstance : bootBuiltins "isinstance" = some (.builtin "isinstance") := by decide +kernel
theorem bt_list : bootBuiltins "list" = some (.type "list") := by decide +kernel
theorem bt_tuple : bootBuiltins "tuple" = some (.type "tuple") := by decide +kernel
theorem bt_int : bootBuiltins "int" = some (.type "int") := by decide +kernel
theorem bt_bool : bootBuiltins "bool" = some (.type "bool") := by decide +kernel
theorem bt_str : bootBuiltins "str" = some (.type "str") := by decide +kernel

/-! ### items -/
def getL {α : Type} [Inhabited α] (xs : List α) (i : Int) : α := (atI xs i).getD default
def InL {α : Type} (xs : List α) (i : Int) : Prop := (atI xs i).isSome = true
theorem getL_at {α : Type} [Inhabited α] {xs : List α} {i : Int} (h : InL xs i) : atI xs i = some (getL xs i) := by
  unfold InL at h
  unfold getL
  cases q : atI xs i with
  | none => rw [q] at h; cases h
  | some v => rfl
section
variable {X : Cx} {b : Bs} {N : List Str} {sc scope : Scope} {mg : Str → Option Value} {W : Str → Bool} {Γ Γ1 Γ2 Γ3 : List En} {k k' rl : Bool} {lv la lb lc : Lv} {pos pos' pp tpos : Pos} {e e1 e2 e3 t tg it elt : Expr} {ifs : List Expr} {st : Stmt} {rest body els : List Stmt}
variable {α β γ δ : Type} [ia : Py α] [ib : Py β] [ic : Py γ] [id' : Py δ] {o : Option β} {c : Bool}
theorem xe_glob {x : Str} {i : Int} (cf : Cf X N sc mg W) (h : ∃ tk, mg x = some (.int i tk)) (hg : sc.names.lookup x = some .globalImplicit := by rfl) (hd : (x == ("__debug__" : Str)) = false := by decide) : XE X b (.Name x pos) Γ lv i := by
  obtain ⟨tk, h⟩ := h
  exact PE.wk (pe_glob (v := .int i) (show X.env.scope.names.lookup x = _ by rw [cf.hs]; exact hg) (by rw [cf.hm]; exact h) ⟨tk, rfl⟩ hd) fun σ H Q ⟨F, ok, kk⟩ => kk _ F H (Grow.rf ok.fr.h) (.int _)
theorem xe_negL {x : Int} (h : XE X b e Γ la x) : XE X b (.UnaryOp .USub e pos) Γ lc (-x) := xe_neg h
theorem xe_vt {n} {es : List Expr} {xs : List α} (h : XA X b es Γ ((xs.map Py.enc).map fun d => (lv, d))) (hz : Nat.ble (xs.map Py.enc).length 1000 = true := by rfl) : XE X b (.Tuple es n pos) Γ lv (VT.mk xs) :=
  xe_tupD (p := VT.mk xs) h rfl hz
theorem xe_t4 {n} {e4 : Expr} {p : α} {q : β} {r : γ} {s : δ} (h1 : XE X b e1 Γ lv p) (h2 : XE X b e2 Γ lv q) (h3 : XE X b e3 Γ lv r) (h4 : XE X b e4 Γ lv s) (hs1 : starEach [e1, e2, e3, e4] X.env = (false, eval e1 X.env) :: starEach [e2, e3, e4] X.env := by rfl) (hs2 : starEach [e2, e3, e4] X.env = (false, eval e2 X.env) :: starEach [e3, e4] X.env := by rfl) (hs3 : starEach [e3, e4] X.env = (false, eval e3 X.env) :: starEach [e4] X.env := by rfl) (hs4 : starEach [e4] X.env = [(false, eval e4 X.env)] := by rfl) : XE X b (.Tuple [e1, e2, e3, e4] n pos) Γ lv (T4.mk p q r s) :=
  xe_tupD (p := T4.mk p q r s) (ds := [Py.enc p, Py.enc q, Py.enc r, Py.enc s]) (xa_cons h1 (xa_cons h2 (xa_cons h3 (xa_cons h4 xa_nil hs4) hs3) hs2) hs1) rfl
/-- list(range(n)) -/
theorem rgV_eq (a b' : Int) : rgV a b' = (rg a (b' - a).toNat).map V.int := by
  unfold rgV rg
  rw [List.map_map]
  rfl
theorem xe_listRg {n : Int} {p1 p2 : Pos} (cf : Cf X N sc mg W) (hgl : sc.names.lookup ("list" : Str) = some .globalImplicit) (hml : mg "list" = none) (hmr : mg "range" = none) (hgr : sc.names.lookup ("range" : Str) = some .globalImplicit) (h : XE X b e Γ la n) (hz : -1000000 ≤ n ∧ n ≤ 1000000)
    (hs : starEach [e] X.env = [(false, eval e X.env)] := by rfl) (hs2 : starEach [.Call (.Name "range" p2) [e] [] pos'] X.env = [(false, eval (.Call (.Name "range" p2) [e] [] pos') X.env)] := by rfl) :
    XE X b (.Call (.Name "list" p1) [.Call (.Name "range" p2) [e] [] pos'] [] pos) Γ lv (rg 0 n.toNat) :=
  PE.wk (pe_listRg cf.calm (show X.env.scope.names.lookup _ = _ by rw [cf.hs]; exact hgl) (by rw [cf.hm]; exact hml) (prg_1 (show X.env.scope.names.lookup _ = _ by rw [cf.hs]; exact hgr) (by rw [cf.hm]; exact hmr) h hs) hs2) fun σ H Q ⟨F, ok, kk⟩ => ⟨F, ok, fun v F1 H1 g1 d1 => by
    refine ⟨n, dp_int d1, ⟨by omega, by omega, by omega, by omega, by omega⟩, fun q hq => ?_⟩
    rw [rgV_eq, Int.sub_zero]
    refine new_lst (ds := (rg 0 n.toNat).map Py.enc) (ok.gr g1).fr (ints_dqa _) ?_ hq fun v F' H' g d => kk v F' H' (g1.tr g) d
    rw [List.length_map, rg_len]
    exact Nat.le_trans (by omega) (show 1000000 ≤ sizeLine by decide)⟩
/-- zip of two lists -/
theorem zip_at {xs : List α} {ys : List β} {i : Nat} {d : PyData} (h : ((List.zip xs ys).map Py.enc)[i]? = some d) : ∃ x y, xs[i]? = some x ∧ ys[i]? = some y ∧ d = .tuple [Py.enc x, Py.enc y] := by
  rw [List.getElem?_map] at h
  cases q : (List.zip xs ys)[i]? with
  | none => rw [q] at h; cases h
  | some p =>
    rw [q] at h
    cases h
    obtain ⟨x, y⟩ := p
    rw [List.getElem?_zip_eq_some] at q
    exact ⟨x, y, q.1, q.2, rfl⟩
theorem jok_zip {K : PySem.W.Frag} {F' : Hp} {a a2 : Addr} {vs ws : List V} {xs : List α} {ys : List β} (hq : Rd (sel2 b.B F' k) a (.lst vs)) (hall : DqAll (sel2 b.B F' k) vs (xs.map Py.enc)) (hq2 : Rd (sel2 b.B F' k) a2 (.lst ws)) (hall2 : DqAll (sel2 b.B F' k) ws (ys.map Py.enc)) :
    JOk b k (Itz K a a2) F' ((List.zip xs ys).map Py.enc) := by
  have up : ∀ {F H : Hp}, Ex F' F → Frz b F H → Rd H a (.lst vs) := fun e fz => (e.tr fz.h).rd (sel2_ne hq)
  have up2 : ∀ {F H : Hp}, Ex F' F → Frz b F H → Rd H a2 (.lst ws) := fun e fz => (e.tr fz.h).rd (sel2_ne hq2)
  refine ⟨fun i d F H hd e fz => ?_, fun i d F H x H' hd e fz hy => ?_, fun i F H hi e fz => ?_⟩
  · obtain ⟨x, y, hx, hy, _⟩ := zip_at hd
    obtain ⟨v, hv, _⟩ := dqa_getd hall (i := i) (d := Py.enc x) (by rw [List.getElem?_map, hx]; rfl)
    obtain ⟨w, hw, _⟩ := dqa_getd hall2 (i := i) (d := Py.enc y) (by rw [List.getElem?_map, hy]; rfl)
    exact ⟨vs, ws, v, w, .inl (up e fz), .inl (up2 e fz), hv, hw⟩
  · obtain ⟨T, v', w', rfl, hT, rfl, h1, h2⟩ := hy
    obtain ⟨x, y, hx, hy, rfl⟩ := zip_at hd
    obtain ⟨v, hv, dv⟩ := dqa_getd hall (i := i) (d := Py.enc x) (by rw [List.getElem?_map, hx]; rfl)
    obtain ⟨w, hw, dw⟩ := dqa_getd hall2 (i := i) (d := Py.enc y) (by rw [List.getElem?_map, hy]; rfl)
    have z1 := h1 vs (.inl (up e fz))
    have z2 := h2 ws (.inl (up2 e fz))
    rw [hv] at z1
    rw [hw] at z2
    cases z1
    cases z2
    have g := Grow.new (o := HO.tup [v', w']) fz.h hT
    exact ⟨_, g, .tup (xs := [v', w']) (.inl (sel2_new fz hT k)) (show 2 ≤ sizeLine by decide) (.cons (dq_mo (sel2_mo (e.tr g.f) k) _ _ dv) (.cons (dq_mo (sel2_mo (e.tr g.f) k) _ _ dw) .nil))⟩
  · refine ⟨vs, ws, .inl (up e fz), .inl (up2 e fz), ?_⟩
    rw [dqa_len hall, dqa_len hall2, List.length_map, List.length_map]
    rw [List.length_map, List.length_zip] at hi
    omega
theorem xi_zip {elts : List Expr} {kk : Nat} {xs : List α} {ys : List β} (cf : Cf X N sc mg W) (h : XE X b e1 Γ (.st k) xs) (h2 : XE X b e2 Γ (.st k) ys) (hg : sc.names.lookup ("zip" : Str) = some .globalImplicit) (hm : mg "zip" = none) (hs1 : starEach [e1, e2] X.env = (false, eval e1 X.env) :: starEach [e2] X.env := by rfl) (hs2 : starEach [e2] X.env = [(false, eval e2 X.env)] := by rfl) (hpl : (backTo pos (starEach [e2] X.env)).any (·.1) = false := by rfl) :
    XI X b (.Tuple elts kk tpos) (.Call (.Name "zip" pp) [e1, e2] [] pos) Γ k (List.zip xs ys) :=
  PI.wk (pi_zip (show X.env.scope.names.lookup _ = _ by rw [cf.hs]; exact hg) (by rw [cf.hm]; exact hm) (xa_cons h (xa_cons h2 xa_nil hs2) hs1) hs1 hpl) fun σ H R ⟨F, ok, kk⟩ => ⟨F, ok, fun vs F' H' g d => by
    obtain ⟨v, w, rfl, d1, d2⟩ := dql2 d
    obtain ⟨a, vs, rfl, hq, hz, hall⟩ := dp_lst d1
    obtain ⟨a2, ws, rfl, hq2, hz2, hall2⟩ := dp_lst d2
    refine ⟨a, a2, vs, ws, rfl, .inl (g.h.rd (sel2_ne hq)), .inl (g.h.rd (sel2_ne hq2)), kk F' H' _ g (jok_zip hq hall hq2 hall2) ?_⟩
    have l1 := dqa_len hall
    rw [List.length_map] at l1
    rw [List.length_map, List.length_zip]
    omega⟩
def idxL {α : Type} [DecidableEq α] (xs : List α) (y : α) : Nat := xs.idxOf y
/-- xs.index(y) -/
theorem find_first [DecidableEq α] : ∀ (xs : List α) (y : α), y ∈ xs → xs[xs.idxOf y]? = some y ∧ ∀ m z, m < xs.idxOf y → xs[m]? = some z → z ≠ y
  | x :: xs, y, h => by
    by_cases e : x = y
    · subst e
      rw [List.idxOf_cons_self]
      exact ⟨rfl, fun m z hm => absurd hm (Nat.not_lt_zero _)⟩
    · have h' : y ∈ xs := by rcases List.mem_cons.mp h with q | q; exact absurd q.symm e; exact q
      obtain ⟨h1, h2⟩ := find_first xs y h'
      have eb : (x == y) = false := by simpa using e
      rw [List.idxOf_cons, eb]
      refine ⟨by simpa using h1, fun m z hm hz => ?_⟩
      cases m with
      | zero => simp at hz; subst hz; exact e
      | succ m => exact h2 m z (by simpa using hm) (by simpa using hz)
theorem xe_index {apos cpos : Pos} [DecidableEq α] [PyE α] {n : Nat} [Sh α n] {xs : List α} {y : α} (cf : Cf X N sc mg W) (h1 : XE X b e1 Γ la xs) (h2 : XE X b e2 Γ lb y) (hm : y ∈ xs) (hn : Nat.ble (n + 1) 64 = true := by rfl)
    (hbase : attributeBase e1 "index" X.env (eval e1 X.env) = eval e1 X.env := by rfl)
    (hfew : ((backTo cpos (starEach [e2] X.env)).all (fun x => !x.1) && (backToKw cpos (keywordEach [] X.env)).all (fun x => x.1.isSome) && decide (([e2] : List Expr).length + ([] : List Keyword).length + (if ([] : List Keyword).isEmpty then 0 else 1) < 30)) = true := by rfl)
    (hline : (apos.endLine == cpos.line) = true := by rfl) (hs : starEach [e2] X.env = [(false, eval e2 X.env)] := by rfl) :
    XE X b (.Call (.Attribute e1 "index" apos) [e2] [] cpos) Γ lc (idxL xs y : Int) :=
  PE.wk (pe_bm PySem.F.plainAttrs_list PySem.F.slot_list_index PySem.F.type_list_index (mt_indexD cf.un) h1 (xa_cons h2 xa_nil hs) hbase hfew hline hs) fun σ H Q ⟨F, ok, kk⟩ => ⟨F, ok, fun v F1 H1 g1 d1 => by
    obtain ⟨a, vs, rfl, hq, hz, hall⟩ := dp_lst d1
    refine ⟨.inl ⟨rfl, vs, .inl (rd_sel (ok.gr g1).fr hq)⟩, F1, ok.gr g1, fun ws F2 H2 g2 d2 => ?_⟩
    obtain ⟨w, rfl, d2'⟩ := dql1 d2
    obtain ⟨f1, f2⟩ := find_first xs y hm
    refine ⟨a, w, Py.enc y, xs.map Py.enc, xs.idxOf y, Py.enc y, rfl, rfl, dq_dp _ _ (Sh.lay xs) (dq_mo ((sel_mo g2 la).tr (sel_le g2.h la)) _ _ d1), dq_dp _ _ (Sh.lay y) (dq_mo (sel_le g2.h lb) _ _ d2'), shp xs (Nat.le_of_ble_eq_true hn), shp y (Nat.le_trans (Nat.le_succ _) (Nat.le_of_ble_eq_true hn)), by rw [List.getElem?_map, f1]; rfl, by rw [PyE.eq]; simp, fun m z hm' hz' => ?_, kk _ F2 H2 (g1.tr g2) (.int _)⟩
    rw [List.getElem?_map] at hz'
    cases q : xs[m]? with
    | none => rw [q] at hz'; cases hz'
    | some x =>
      rw [q] at hz'
      cases hz'
      rw [PyE.eq]
      exact decide_eq_false (f2 m x hm' q)⟩
/-! ### weakening -/
theorem EnvOk.old {K : PySem.W.Frag} {b : Bs} {F H : Hp} {σ : L2.St} {α : Type} {i : Py α} {a : α} (e : EnvOk K b F H σ Γ) {j : Nat} (hj : Γ[j]? = some (.dat α i true a)) : EnvOk K b F H σ (Γ.set j (.dat α i false a)) := by
  obtain ⟨fr, len, fp, h1, h2, h3⟩ := e
  refine ⟨fr, by simpa using len, fp, h1, h2, fun m e he => ?_⟩
  by_cases z : j = m
  · subst z
    have hjl : j < Γ.length := (List.getElem?_eq_some_iff.mp hj).1
    rw [List.getElem?_set_self hjl] at he
    cases he
    obtain ⟨o, ho, v, rfl, d⟩ := h3 j _ hj
    exact ⟨_, ho, v, rfl, dq_mo (sel2_le true) _ _ d⟩
  · rw [List.getElem?_set_ne z] at he
    exact h3 m e he
theorem EnvOk.oldR {K : PySem.W.Frag} {b : Bs} {F H : Hp} {σ : L2.St} {α : Type} {i : Py α} {a : List α} (e : EnvOk K b F H σ Γ) {j : Nat} (hj : Γ[j]? = some (.res (ownR α true a))) : EnvOk K b F H σ (Γ.set j (.res (ownR α false a))) := by
  obtain ⟨fr, len, fp, h1, h2, h3⟩ := e
  refine ⟨fr, by simpa using len, fp, h1, h2, fun m e he => ?_⟩
  by_cases z : j = m
  · subst z
    have hjl : j < Γ.length := (List.getElem?_eq_some_iff.mp hj).1
    rw [List.getElem?_set_self hjl] at he
    cases he
    obtain ⟨o, ho, v, rfl, l, vs, e1, hA, hl, hz, d⟩ := h3 j _ hj
    exact ⟨_, ho, v, rfl, l, vs, e1, hA, hl, hz, dqa_mo (sel2_le true) _ _ d⟩
  · rw [List.getElem?_set_ne z] at he
    exact h3 m e he
theorem Wk.old {α : Type} {i : Py α} {a : α} {j : Nat} (hj : Γ1[j]? = some (.dat α i true a)) (w : Wk (Γ1.set j (.dat α i false a)) Γ2) : Wk Γ1 Γ2 := fun _ _ _ _ _ e => w _ _ _ _ _ (e.old hj)
theorem xb_old {α : Type} {i : Py α} {a : α} {j : Nat} (hj : Γ[j]? = some (.dat α i true a)) (h : XB X b rl body (Γ.set j (.dat α i false a)) o Γ1) : XB X b rl body Γ o Γ1 := PSs.wk h fun D σ H ⟨F, ok, kk⟩ => ⟨F, ok.old hj, kk⟩
theorem xb_oldR {α : Type} {i : Py α} {a : List α} {j : Nat} (hj : Γ[j]? = some (.res (ownR α true a))) (h : XB X b rl body (Γ.set j (.res (ownR α false a))) o Γ1) : XB X b rl body Γ o Γ1 := PSs.wk h fun D σ H ⟨F, ok, kk⟩ => ⟨F, ok.oldR hj, kk⟩
theorem xb_endW (h : XB X b rl body Γ o Γ1) (w : Wk Γ1 Γ2) : XB X b rl body Γ o Γ2 := PSs.wk h fun D σ H ⟨F, ok, kk⟩ => ⟨F, ok, by
  cases o with
  | some d => exact kk
  | none => exact fun σ' F' H' e ok' => kk σ' F' H' e (w _ _ _ _ _ ok')⟩
/-! ### more statements -/
theorem xs_ifE {Γ' : Bool → List En} (ht : XT X b t Γ c) (h1 : c = true → XB X b rl body Γ (none : Option β) (Γ' true)) (h2 : c = false → XB X b rl els Γ (none : Option β) (Γ' false)) : XS X b rl (.If t body els pos) Γ (none : Option β) (Γ' c) := by
  cases c with
  | true => exact xs_if ht h1 (fun z => by cases z)
  | false => exact xs_if ht (fun z => by cases z) h2
theorem xs_drop {p : α} (h : XE X b e Γ lv p) (hs : swapsWith e none pos.line X.env = pure false := by rfl) : XS X b rl (.Expr e pos) Γ (none : Option β) Γ :=
  PS.wk (ps_expr h hs) fun D σ H ⟨F, ok, kk⟩ => ⟨F, ok, fun v F' H' g d => kk σ F' H' g.f (ok.gr g)⟩
theorem xs_pass : XS X b rl (.Pass pos) Γ (none : Option β) Γ := PS.wk ps_pass fun D σ H ⟨F, ok, kk⟩ => kk σ F H (Ex.rf F) ok
theorem xs_lcE {i : Nat} {v1 v2 : α} (h : XS X b rl st Γ (none : Option β) (Γ.set i (.dat α ia k v1))) (q : v1 = v2) : XS X b rl st Γ (none : Option β) (Γ.set i (.dat α ia k v2)) := q ▸ h
theorem xb_seqm {o1 o2 : Option β} (h1 : XS X b rl st Γ o1 Γ1) (h2 : o1 = none → XB X b rl rest Γ1 o2 Γ2) : XB X b rl (st :: rest) Γ (o1.or o2) Γ2 := by
  cases o1 with
  | none => exact xb_seq h1 (h2 rfl)
  | some r => exact PSs.wk (pss_cons h1 pss_never) fun D σ H ⟨F, ok, kk⟩ => ⟨F, ok, tS_some (Γ' := Γ1) kk rfl (Ex.rf F)⟩
/-! ### x, y = e1, e2 where one is captured, or all is written -/
theorem swapN2 {x y : Str} {px py pt : Pos} {kt k2 pt2} (cf : Cf X N sc mg W) (h : sc.names.lookup x = some .cell ∨ sc.names.lookup y = some .cell) : swappedStores [.Tuple [.Name x px, .Name y py] kt pt] (.Tuple [e1, e2] k2 pt2) X.env = pure none := by
  have kk : ∀ z : Str, sc.names.lookup z = some .cell → (X.env.kindOf z == some NameKind.local) = false := fun z hz => by
    have : X.env.kindOf z = some .cell := by show X.env.scope.names.lookup z = _; rw [cf.hs]; exact hz
    rw [this]; rfl
  unfold swappedStores
  simp only [List.length_cons, List.length_nil, List.any_cons, List.any_nil]
  have hq : ∀ l : Nat, (([Expr.Name x px, .Name y py].filterMap fun
    | .Name id pos => if X.env.kindOf id == some .local && pos.line == l then some id else none
    | _ => none).length != 2) = true := fun l => by
    rcases h with h | h
    · cases hb : (X.env.kindOf y == some NameKind.local && py.line == l) <;> simp only [List.filterMap_cons, kk x h, hb, Bool.false_and, Bool.false_eq_true, if_false, if_true, List.filterMap_nil] <;> rfl
    · cases hb : (X.env.kindOf x == some NameKind.local && px.line == l) <;> simp only [List.filterMap_cons, kk y h, hb, Bool.false_and, Bool.false_eq_true, if_false, if_true, List.filterMap_nil] <;> rfl
  split
  · rfl
  · split
    · rfl
    · split
      · rfl
      · rw [if_neg (by decide)]
        refine if_pos ?_
        rw [Bool.or_eq_true]
        exact .inl (hq _)
end
/-! ### a loop's states -/
theorem foldl_Iv {S α : Type} (step : S → α → S) (xs : List α) (s0 : S) : ∀ (i : Nat) (s : S) (x : α), xs[i]? = some x → (xs.take i).foldl step s0 = s → (xs.take (i + 1)).foldl step s0 = step s x := fun i s x hx h => by
  rw [List.take_succ, hx, List.foldl_append, h]
  rfl
theorem loopR_app {S α β : Type} (o : S → α → Option β) (step : S → α → S) (ys : List α) : ∀ (xs : List α) (s0 s : S), loopR o step xs s0 = (none, s) → loopR o step (xs ++ ys) s0 = loopR o step ys s
  | [], s0, s, h => by cases h; rfl
  | x :: xs, s0, s, h => by
    have h : (match o s0 x with | some r => (some r, s0) | none => loopR o step xs (step s0 x)) = (none, s) := h
    show (match o s0 x with | some r => (some r, s0) | none => loopR o step (xs ++ ys) (step s0 x)) = _
    cases q : o s0 x with
    | some r => rw [q] at h; cases h
    | none => rw [q] at h; exact loopR_app o step ys xs _ _ h
theorem loopR_Iv {S α β : Type} (o : S → α → Option β) (step : S → α → S) (xs : List α) (s0 : S) : ∀ (i : Nat) (s : S) (x : α), xs[i]? = some x → loopR o step (xs.take i) s0 = (none, s) → o s x = none → loopR o step (xs.take (i + 1)) s0 = (none, step s x) := fun i s x hx h ho => by
  rw [List.take_succ, hx, loopR_app o step _ _ _ _ h]
  show (match o s x with | some r => (some r, s) | none => (none, step s x)) = _
  rw [ho]
end Zk

namespace Zk
open PySem PySem.Spec PyProof.Rows L2

/-! ### a def that falls off its end -/
section
variable {t : Tx} {ι : Type} {rl : Bool} {ins : ι → List En} {N ps : List Str} {k : Nat} {x : Str} {st : Stmt}
theorem fn_defU (D : DefAt t x st) (S : FnScope N ps (defScope st))
    (hb : ∀ (kV doc pm : Value) (an : Option Addr) (cdv ct : Value) (us : List Value), us.length = ps.length → bindArgs (PySem.W.fnOf x x (defArgs st) (defBody st) (defScope st) .none kV doc pm an cdv ct) ⟨us, []⟩ = pure (ps.zip us))
    (hl : ∀ i, (ins i).length = ps.length) (Γ' : List En)
    (body : ∀ (X : Cx) (b : Bs) (i : ι), Cf X N (defScope st) t.mg (fun _ => true) → At X t k → b.R = List.replicate N.length .no → PSs X (defBody st) (tS X.K b rl (ins i ++ List.replicate (N.length - ps.length) .no) none Γ')) :
    FnAt t x (k + 1) ps (spI rl ins fun _ => Py.enc ()) := by
  obtain ⟨f, fd, F, hm⟩ := D.ex
  have hpl : ps.length ≤ N.length := by have := congrArg List.length S.pre; rw [List.length_take] at this; omega
  refine ⟨f, fd, F.ok S (fun vs H Q E ⟨F, i, e, a, _⟩ => a.len.trans (hl i)) (fun cdv A outer s H vs Q E hr h => ?_), hm, F.kp, F.binds hb⟩
  obtain ⟨Fh, i, e, a, kk⟩ := h
  refine ⟨_, body (cxOf CX0 t.P t.w t.K t.mg t.base N x (defScope st) f cdv A outer s H E).nox ⟨H, Fh, List.replicate N.length .no⟩ i
    ⟨rfl, rfl, rfl, S.nd, rfl, PassesOwn.never, (by have := hr.un; show (A.deeper _).units + 65 < _; omega), fun _ _ => .inl rfl⟩ ⟨rfl, rfl, rfl, rfl, rfl, hr⟩ rfl, Fh, ?_, fun σ' F' H' e' ok' => kk .non F' H' ⟨ok'.fr.f, ok'.fr.h, ok'.fr.b, ok'.fr.n⟩ .non⟩
  rw [← hl i] at hpl ⊢
  exact start_env e a hpl
end
/-! ### a loop within a loop, both may hand back -/
section
variable {X : Cx} {b : Bs} {N : List Str} {sc : Scope} {mg : Str → Option Value} {W : Str → Bool} {Γ Γ' Γ1 Γ2 : List En} {k rl : Bool} {lv : Lv} {pos pos' : Pos} {e t tg it : Expr} {st : Stmt} {rest body els : List Stmt}
variable {S α β : Type} [Py α] [Py β]
theorem xb_form {Γs : S → List En} {xs : List α} {step : S → α → S} {o : S → α → Option β} {o2 : S → Option β} {Γt : S → α → List En} {Γe : S → List En} {js : List Nat} (Iv : Nat → S → Prop) (s0 : S) (cf : Cf X N sc mg W) (hi : XI X b tg it Γ k xs) (hΓ : Sub Γ (Γs s0)) (hI0 : Iv 0 s0)
    (hg : ∀ s x, x ∈ xs → XG X b tg (Γs s) k x js (Γt s x))
    (hb : ∀ i s x, xs[i]? = some x → Iv i s → XB X b rl body (Γt s x) (o s x) (Γs (step s x)))
    (hI : ∀ i s x, xs[i]? = some x → Iv i s → o s x = none → Iv (i + 1) (step s x))
    (hr : ∀ s, (loopR o step xs s0).1 = none → s = (loopR o step xs s0).2 → XB X b rl rest (Γs s) (o2 s) (Γe s))
    (hs : ∀ x, foldedSetIterable it X.env x = pure x := by intro _; rfl) :
    XB X b rl (.For tg it body [] pos :: rest) Γ ((loopR o step xs s0).1.or (o2 (loopR o step xs s0).2)) (Γe (loopR o step xs s0).2) :=
  xb_seqm (xs_for (pos := pos) Iv s0 cf hi hΓ hI0 hg hb hI hs) fun hn => hr _ hn rfl
end
end Zk

namespace Zk
open PySem PySem.Spec PyProof.Rows L2

/-! ### a region of the heap -/
open Classical in
noncomputable def reg (A : Addr → Prop) (H : Hp) : Hp := fun l => if A l then nofrz (H l) else none
theorem reg_at {A : Addr → Prop} {H : Hp} {l : Addr} {o : HO} (h : reg A H l = some o) : A l ∧ H l = some o ∧ nofrz (some o) = some o := by
  unfold reg at h
  split at h
  · exact ⟨by assumption, nofrz_some h, nofrz_id h⟩
  · cases h
theorem reg_mk {A : Addr → Prop} {H : Hp} {l : Addr} {o : HO} (ha : A l) (h : H l = some o) (hn : nofrz (some o) = some o) : reg A H l = some o := by
  unfold reg
  rw [if_pos ha, h]
  exact hn
theorem reg_le {A : Addr → Prop} {H : Hp} : Ex (reg A H) H := fun l o h => (reg_at h).2.1
theorem reg_mo {A : Addr → Prop} {H H' : Hp} (h : ∀ l o, A l → H l = some o → H' l = some o) : Ex (reg A H) (reg A H') := fun l o q => by
  obtain ⟨a, c, d⟩ := reg_at q
  exact reg_mk a (h l o a c) d
theorem rd_reg {A : Addr → Prop} {H : Hp} {a : Addr} {u : HO} (h : Rd (reg A H) a u) : A a ∧ H a = some u := by
  rcases h with h | ⟨o, h⟩
  · exact ⟨(reg_at h).1, (reg_at h).2.1⟩
  · exact absurd (reg_at h).2.2 (fun z => by cases z)
/-- data of one's own, all of it -/
def ownD (α : Type) [Py α] (a : α) : Res where
  R := fun _ B F H v A => Dq (reg A H) v (Py.enc a)
  mo := fun d _ hA => dq_mo (reg_mo hA) _ _ d
abbrev wv {α : Type} [Py α] (a : α) : En := .res (ownD α a)
/-- a list of one's own of which no more is known than its place -/
def ownB (n : Nat) : Res where
  R := fun _ B F H v A => ∃ l vs, v = .ref l ∧ A l ∧ H l = some (.lst vs) ∧ vs.length ≤ n
  mo := fun ⟨l, vs, e, a, h, z⟩ _ hA => ⟨l, vs, e, a, hA l _ a h, z⟩
/-- lists in a list, at known places -/
def ownM (l : Addr) (vs : List V) (m : Nat) : Res where
  R := fun _ B F H v A => A l ∧ H l = some (.lst vs) ∧ ∀ w, w ∈ vs → ∃ l' ws, w = .ref l' ∧ l' ≠ l ∧ A l' ∧ H l' = some (.lst ws) ∧ ws.length ≤ m
  mo := fun ⟨a, h, q⟩ _ hA => ⟨a, hA _ _ a h, fun w hw => by
    obtain ⟨l', ws, e, n, a', h', z⟩ := q w hw
    exact ⟨l', ws, e, n, a', hA _ _ a' h', z⟩⟩

/-! ### an environment with its footprints -/
structure EnvAt (K : PySem.W.Frag) (b : Bs) (F H : Hp) (σ : L2.St) (Γ : List En) (fp : Nat → Addr → Prop) : Prop where
  fr : Frz b F H
  len : σ.length = Γ.length
  dj : ∀ i j l, fp i l → fp j l → i = j
  ow : ∀ i l, fp i l → H l ≠ none ∧ F l = none ∧ b.B l = none
  sl : ∀ i e, Γ[i]? = some e → ∃ o, σ[i]? = some o ∧ Sl K b F H o e (fp i)
section
variable {K : PySem.W.Frag} {b : Bs} {F H F' H' : Hp} {σ : L2.St} {Γ : List En} {fp : Nat → Addr → Prop}
theorem EnvOk.get (e : EnvOk K b F H σ Γ) : ∃ fp, EnvAt K b F H σ Γ fp := by
  obtain ⟨fr, len, fp, h1, h2, h3⟩ := e
  exact ⟨fp, fr, len, h1, h2, h3⟩
theorem EnvAt.ok (e : EnvAt K b F H σ Γ fp) : EnvOk K b F H σ Γ := ⟨e.fr, e.len, fp, e.dj, e.ow, e.sl⟩
theorem EnvAt.gr (e : EnvAt K b F H σ Γ fp) (g : Grow F H F' H') : EnvAt K b F' H' σ Γ fp := by
  refine ⟨e.fr.gr g, e.len, e.dj, fun i l h => ?_, fun i en he => ?_⟩
  · obtain ⟨a, c, d⟩ := e.ow i l h
    exact ⟨g.b.ne a, (g.n l a).trans c, d⟩
  · obtain ⟨o, a, c⟩ := e.sl i en he
    exact ⟨o, a, c.gr g.f fun l o _ q => g.b l o q⟩
theorem EnvAt.mut (e : EnvAt K b F H σ Γ fp) {j : Nat} {r r' : Res} (hj : Γ[j]? = some (.res r)) {H' : Hp} (hn : ∀ l, ¬ fp j l → H' l = H l) (hy : ∀ l, fp j l → H' l ≠ none) (hr : ∀ v, σ[j]? = some (some v) → r'.R K b.B F H' v (fp j)) : EnvAt K b F H' σ (Γ.set j (.res r')) fp := by
  obtain ⟨fr, len, h1, h2, h3⟩ := e
  obtain ⟨o, ho, v, rfl, _⟩ := h3 j _ hj
  have fz : Frz b F H' := by
    refine ⟨fr.f, fun l o q => ?_, fun l o q => ?_, fr.n⟩
    · by_cases z : fp j l
      · rw [(h2 j l z).2.1] at q; cases q
      · rw [hn l z]; exact fr.h l o q
    · by_cases z : fp j l
      · rw [(h2 j l z).2.2] at q; cases q
      · rw [hn l z]; exact fr.b l o q
  refine ⟨fz, by simpa using len, h1, fun i l hl => ?_, fun m e he => ?_⟩
  · obtain ⟨p, q, s⟩ := h2 i l hl
    refine ⟨?_, q, s⟩
    by_cases z : fp j l
    · exact hy l z
    · rw [hn l z]; exact p
  · by_cases z : j = m
    · subst z
      have hjl : j < Γ.length := by simpa using (List.getElem?_eq_some_iff.mp he).1
      rw [List.getElem?_set_self hjl] at he
      cases he
      exact ⟨some v, ho, v, rfl, hr v ho⟩
    · rw [List.getElem?_set_ne z] at he
      obtain ⟨o, a, c⟩ := h3 m e he
      refine ⟨o, a, c.gr (Ex.rf F) fun l o hl q => ?_⟩
      rw [hn l fun y => z (h1 j m l y hl)]
      exact q
theorem EnvAt.re (e : EnvAt K b F H σ Γ fp) {j : Nat} {r r' : Res} (hj : Γ[j]? = some (.res r)) (hr : ∀ v, σ[j]? = some (some v) → r.R K b.B F H v (fp j) → r'.R K b.B F H v (fp j)) : EnvAt K b F H σ (Γ.set j (.res r')) fp := by
  refine e.mut hj (fun _ _ => rfl) (fun l hl => (e.ow j l hl).1) fun v hv => ?_
  obtain ⟨o, ho, w, rfl, h⟩ := e.sl j _ hj
  rw [ho] at hv
  cases hv
  exact hr _ ho h
end
theorem set_at {Γ : List En} {j : Nat} {e e' : En} (h : Γ[j]? = some e) : (Γ.set j e')[j]? = some e' := by
  have hj : j < Γ.length := (List.getElem?_eq_some_iff.mp h).1
  rw [List.getElem?_set_self hj]

/-! ### what lies in the region of a slot -/
def tR (K : PySem.W.Frag) (b : Bs) (Γ : List En) (j : Nat) (P : V → V → Prop) (d : PyData) : TE := fun σ H Q => ∃ F fp, EnvAt K b F H σ Γ fp ∧ ∀ v v0 F' H', Grow F H F' H' → σ[j]? = some (some v0) → P v0 v → Dq (reg (fp j) H') v d → Q v H'
abbrev XR (X : Cx) (b : Bs) (j : Nat) (P : V → V → Prop) (e : Expr) (Γ : List En) {α : Type} [Py α] (a : α) : Prop := PE X e (tR X.K b Γ j P (Py.enc a))
section
variable {X : Cx} {b : Bs} {N : List Str} {sc scope : Scope} {mg : Str → Option Value} {W : Str → Bool} {Γ Γ1 Γ2 Γ3 : List En} {k k' rl : Bool} {lv la lb lc : Lv} {pos pos' pp tpos : Pos} {e e1 e2 e3 t tg it elt : Expr} {ifs : List Expr} {st : Stmt} {rest body els : List Stmt}
variable {α β γ δ : Type} [ia : Py α] [ib : Py β] [ic : Py γ] [id' : Py δ] {o : Option β} {c : Bool} {P : V → V → Prop} {j : Nat}
theorem xr_var (cf : Cf X N sc mg W) (i : Nat) {x : Str} {a : α} (hN : N[i]? = some x) (hv : Vis sc x) (hΓ : Γ[i]? = some (.res (ownD α a))) (hd : (x == ("__debug__" : Str)) = false := by decide) (hcd : (x == ("__classdict__" : Str)) = false := by decide) : XR X b i Eq (.Name x pos) Γ a := by
  refine PE.wk (pe_var (i := i) (by rw [cf.hN]; exact hN) (by rw [cf.hs]; exact hv) hd hcd) fun σ H Q ⟨F, fp, ok, kq⟩ => ?_
  obtain ⟨o, ho, v, rfl, d⟩ := ok.sl i _ hΓ
  exact ⟨_, ho, kq v v F H (Grow.rf ok.fr.h) ho rfl d⟩
theorem xr_ix {xs : List α} {p : α} {i : Int} {n pp} (h1 : XR X b j P e1 Γ xs) (ha : atI xs i = some p) (hs : PlainIx (.Constant (.int i) n pp)) : XR X b j (fun _ _ => True) (.Subscript e1 (.Constant (.int i) n pp) pos) Γ p :=
  PE.wk (pe_ix ix_list h1 (pe_int (pos := pp) (j := n)) hs) fun σ H Q ⟨F, fp, ok, kq⟩ => ⟨F, fp, ok, fun v v0 F1 H1 g1 hv0 hP d1 => by
    obtain ⟨a, vs, rfl, hq, hzz, hall⟩ := dp_lst d1
    obtain ⟨u, hu, du⟩ := ix_at hall (at_map ha)
    exact ⟨a, vs, i, u, rfl, rfl, .inl (reg_le.rd hq), hu, kq u v0 F1 H1 g1 hv0 trivial du⟩⟩
theorem xr_snd {s : α × β} {n pp} (h1 : XR X b j P e1 Γ s) (hs : PlainIx (.Constant (.int 1) n pp)) : XR X b j (fun _ _ => True) (.Subscript e1 (.Constant (.int 1) n pp) pos) Γ s.2 :=
  PE.wk (pe_ix ix_tup h1 (pe_int (pos := pp) (j := n)) hs) fun σ H Q ⟨F, fp, ok, kq⟩ => ⟨F, fp, ok, fun v v0 F1 H1 g1 hv0 hP d1 => by
    obtain ⟨a, vs, rfl, hq, hzz, hall⟩ := dp_tup (ds := [Py.enc s.1, Py.enc s.2]) d1
    obtain ⟨u, hu, du⟩ := ix_at (i := 1) (d := Py.enc s.2) hall rfl
    exact ⟨a, vs, 1, u, rfl, rfl, .inl (reg_le.rd hq), hu, kq u v0 F1 H1 g1 hv0 trivial du⟩⟩

/-! ### x.append(..) of what lies in a region: no more is known of the slot -/
variable {apos cpos p1 epos xpos ypos : Pos}
theorem grow_F {F H F' H' : Hp} (g : Grow F H F' H') {l : Addr} {o : HO} (h : H l = some o) : H' l = some o := g.b l o h
theorem xs_appR {ys : List α} {p : β} (cf : Cf X N sc mg W) {a : δ} (hΓ : Γ[j]? = some (.res (ownD δ a))) (h1 : XR X b j P e1 Γ ys) (he : XE X b e Γ .bor p)
    (hbase : attributeBase e1 "append" X.env (eval e1 X.env) = eval e1 X.env := by rfl)
    (hfew : ((backTo cpos (starEach [e] X.env)).all (fun x => !x.1) && (backToKw cpos (keywordEach [] X.env)).all (fun x => x.1.isSome) && decide (([e] : List Expr).length + ([] : List Keyword).length + (if ([] : List Keyword).isEmpty then 0 else 1) < 30)) = true := by rfl)
    (hz : ys.length < 1000000) (hline : (apos.endLine == cpos.line) = true := by rfl) (hs : starEach [e] X.env = [(false, eval e X.env)] := by rfl) (hsw : swapsWith (.Call (.Attribute e1 "append" apos) [e] [] cpos) none pos.line X.env = pure false := by rfl) :
    XS X b rl (.Expr (.Call (.Attribute e1 "append" apos) [e] [] cpos) pos) Γ (none : Option γ) (Γ.set j .no) := by
  refine PS.wk (ps_expr (pe_bm PySem.F.plainAttrs_list PySem.F.slot_list_append PySem.F.type_list_append mt_append h1 (xa_cons he xa_nil hs) hbase hfew hline hs) hsw) fun D σ H ⟨F, ok, kk⟩ => ?_
  obtain ⟨fp, oa⟩ := ok.get
  refine ⟨F, fp, oa, fun v v0 F1 H1 g1 hv0 hP d1 => ?_⟩
  obtain ⟨l, vs, rfl, hq, hz', hall⟩ := dp_lst d1
  obtain ⟨hA, hl⟩ := rd_reg hq
  refine ⟨.inl ⟨rfl, vs, .inl (.inl hl)⟩, F1, (oa.gr g1).ok, fun ws F2 H2 g2 d2 => ?_⟩
  obtain ⟨y, rfl, _⟩ := dql1 d2
  have lv : vs.length < 1000000 := by rw [dqa_len hall, List.length_map]; exact hz
  have oa2 := (oa.gr g1).gr g2
  refine ⟨l, vs, y, rfl, rfl, g2.b _ _ hl, Nat.lt_of_lt_of_le lv (by decide), kk _ F2 _ (g1.f.tr g2.f) ?_⟩
  have m := oa2.mut (r' := ⟨fun _ _ _ _ _ _ => True, fun _ _ _ => trivial⟩) hΓ (H' := upd H2 l (.lst (vs ++ [y]))) (fun m hm => upd_ne fun z => hm (z ▸ hA)) (fun m hm => by
    by_cases z : m = l
    · subst z; rw [upd_same]; exact fun q => by cases q
    · rw [upd_ne z]; exact (oa2.ow _ _ hm).1) fun _ _ => trivial
  have ok3 := m.ok
  refine ok3.sub ?_
  have hset : ∀ (Γ : List En) (j : Nat) (r : Res), Sub (Γ.set j (.res r)) (Γ.set j .no) := fun Γ => by
    induction Γ with
    | nil => intro j r; exact .nil
    | cons e Γ ih =>
      intro j r
      cases j with
      | zero => exact .drop (Sub.rf Γ)
      | succ j => exact .keep (ih j r)
  exact hset Γ j _
theorem xs_appB {x : Str} {n : Nat} {p : α} (cf : Cf X N sc mg W) (hN : N[j]? = some x) (hv : Vis sc x) (hΓ : Γ[j]? = some (.res (ownB n))) (he : XE X b e Γ .bor p) (hz : Nat.ble (n + 1) 1000000 = true := by rfl) (hd : (x == ("__debug__" : Str)) = false := by decide) (hcd : (x == ("__classdict__" : Str)) = false := by decide)
    (hbase : attributeBase (.Name x p1) "append" X.env (eval (.Name x p1) X.env) = eval (.Name x p1) X.env := by rfl)
    (hfew : ((backTo cpos (starEach [e] X.env)).all (fun x => !x.1) && (backToKw cpos (keywordEach [] X.env)).all (fun x => x.1.isSome) && decide (([e] : List Expr).length + ([] : List Keyword).length + (if ([] : List Keyword).isEmpty then 0 else 1) < 30)) = true := by rfl)
    (hline : (apos.endLine == cpos.line) = true := by rfl) (hs : starEach [e] X.env = [(false, eval e X.env)] := by rfl) (hsw : swapsWith (.Call (.Attribute (.Name x p1) "append" apos) [e] [] cpos) none pos.line X.env = pure false := by rfl) :
    XS X b rl (.Expr (.Call (.Attribute (.Name x p1) "append" apos) [e] [] cpos) pos) Γ (none : Option β) (Γ.set j (.res (ownB (n + 1)))) := by
  refine PS.wk (ps_expr (pe_bm PySem.F.plainAttrs_list PySem.F.slot_list_append PySem.F.type_list_append mt_append (pe_var (i := j) (by rw [cf.hN]; exact hN) (by rw [cf.hs]; exact hv) hd hcd) (xa_cons he xa_nil hs) hbase hfew hline hs) hsw) fun D σ H ⟨F, ok, kk⟩ => ?_
  obtain ⟨fp, oa⟩ := ok.get
  obtain ⟨o, ho, v, rfl, l, vs, rfl, hA, hl, hn⟩ := oa.sl j _ hΓ
  refine ⟨_, ho, .inl ⟨rfl, vs, .inl (.inl hl)⟩, F, ok, fun ws F1 H1 g1 d1 => ?_⟩
  obtain ⟨y, rfl, _⟩ := dql1 d1
  have oa1 := oa.gr g1
  have hz' : n + 1 ≤ 1000000 := Nat.le_of_ble_eq_true hz
  refine ⟨l, vs, y, rfl, rfl, g1.b _ _ hl, Nat.lt_of_lt_of_le (show vs.length < 1000000 by omega) (by decide), kk _ F1 _ g1.f (oa1.mut hΓ (H' := upd H1 l (.lst (vs ++ [y]))) (fun m hm => upd_ne fun z => hm (z ▸ hA)) (fun m hm => ?_) fun v' hv' => ?_).ok⟩
  · by_cases z : m = l
    · subst z; rw [upd_same]; exact fun q => by cases q
    · rw [upd_ne z]; exact (oa1.ow _ _ hm).1
  · rw [ho] at hv'
    cases hv'
    exact ⟨l, vs ++ [y], rfl, hA, upd_same, by rw [List.length_append]; simp; omega⟩

/-! ### x = e, e all new -/
def tD (K : PySem.W.Frag) (b : Bs) (Γ : List En) (d : PyData) : TE := fun σ H Q => ∃ F, EnvOk K b F H σ Γ ∧ ∀ v F' H', Grow F H F' H' → Dq (sel2 H F' true) v d → Q v H'
abbrev XD (X : Cx) (b : Bs) (e : Expr) (Γ : List En) {α : Type} [Py α] (a : α) : Prop := PE X e (tD X.K b Γ (Py.enc a))
theorem sel2_anti {B B' F : Hp} (h : Ex B B') : Ex (sel2 B' F true) (sel2 B F true) := fun l o q => by
  simp only [sel2] at q ⊢
  cases z : B' l with
  | some u => rw [z] at q; cases q
  | none => rw [z] at q; rw [h.no z]; exact q
theorem xe_xd {a : α} (h : XD X b e Γ a) : XE X b e Γ (.st true) a := PE.wk h fun σ H Q ⟨F, ok, kk⟩ => ⟨F, ok, fun v F' H' g d => kk v F' H' g (dq_mo (sel2_anti ok.fr.b) _ _ d)⟩
theorem xs_asgD {x : Str} {j : Nat} {a : α} (cf : Cf X N sc mg W) (hN : N[j]? = some x) (hx : L2.Loc sc x) (hW : W x = true) (h : XD X b e Γ a) (hs : swapsWithSole [.Name x xpos] e pos.line X.env = pure false := by rfl) (hw : swappedStores [.Name x xpos] e X.env = pure none := by rfl)
    (h1 : (assignEach [.Name x xpos] X.env).map (·.2) = [assign (.Name x xpos) X.env] := by rfl) : XS X b rl (.Assign [.Name x xpos] e pos) Γ (none : Option β) (Γ.set j (.res (ownD α a))) := by
  have hx' : L2.Loc X.env.scope x := by rw [cf.hs]; exact hx
  refine PS.wk (ps_asg h (pg_name (i := j) (by rw [cf.hN]; exact cf.nd) (by rw [cf.hN]; exact hN) hx' (cf.fn x hW)) hs hw h1) fun D σ H ⟨F, ok, kk⟩ => ⟨F, ok, fun v F1 H1 g1 d1 => ?_⟩
  have g0 : Grow F H F H1 := ⟨Ex.rf F, ok.fr.h.tr g1.b, g1.b, fun _ _ => rfl⟩
  refine kk _ F H1 (Ex.rf F) (ok.newR g0 (r := ownD α a) (A := fun l => H l = none ∧ H1 l ≠ none) (fun l hl => ⟨hl.1, hl.2, ok.fr.h.no hl.1⟩) ?_ j)
  refine dq_mo (fun l o q => ?_) _ _ d1
  simp only [sel2] at q
  cases z : H l with
  | some u => rw [z] at q; cases q
  | none =>
    rw [z] at q
    have q : nofrz (F1 l) = some o := q
    have hl := g1.h l o (nofrz_some q)
    exact reg_mk ⟨z, by rw [hl]; exact fun y => by cases y⟩ hl (nofrz_id q)
end
section
variable {t : Tx} {ι : Type} {ins : ι → List En} {out : ι → PyData} {N ps : List Str} {k j : Nat} {f : Addr} {fd : FuncData} {x : Str}
variable {X : Cx} {b : Bs} {sc : Scope} {mg : Str → Option Value} {W : Str → Bool} {Γ : List En} {pos pp : Pos} {e : Expr} {es : List Expr}
theorem xd_fn {α : Type} [Py α] {p : α} {ds : List (Lv × PyData)} (c : Cf X N sc mg W) (a : At X t k) (G : FnAt t x j ps (spI true ins out)) (hj : Nat.ble j k = true) (hg : sc.names.lookup x = some .globalImplicit)
    (i : ι) (ha : XA X b (e :: es) Γ ds) (fit : Fit ds (ins i)) (hp : out i = Py.enc p := by rfl) (hdb : (x == ("__debug__" : Str)) = false := by decide)
    (he : starEach (e :: es) X.env = (false, eval e X.env) :: starEach es X.env := by rfl) (hpl : (backTo pos (starEach es X.env)).any (·.1) = false := by rfl) : XD X b (.Call (.Name x pp) (e :: es) [] pos) Γ p := by
  obtain ⟨f, fd, G, hm, hk, hb⟩ := G.ex
  refine PE.wk (pe_call (fn_at a G) (a.hr.mono (Nat.le_of_ble_eq_true hj)) (show X.env.scope.names.lookup x = _ by rw [c.hs]; exact hg) (by rw [a.hm]; exact hm) (by rw [a.hK]; exact hk) (by rw [a.hK]; exact hb) .nil pass0 ha hdb he hpl) fun σ H Q ⟨F, ok, kk⟩ => ⟨F, ok, fun vs F1 H1 g1 d1 => ?_⟩
  refine ⟨F1, i, g1.h, ?_, fun v F' H' g d => kk v F' H' (g1.tr g) ?_⟩
  · rw [List.append_nil]
    exact fit.ok d1
  · rw [hp] at d
    exact dq_mo (sel2_anti g1.b) _ _ d
end
/-! ### for y in xs: y.append(c) -/
section
variable {K : PySem.W.Frag} {b : Bs} {F H F' H' : Hp} {σ : L2.St} {Γ : List En} {fp : Nat → Addr → Prop}
theorem EnvAt.setN (e : EnvAt K b F H σ Γ fp) (j : Nat) (o : Option V) : EnvAt K b F H (σ.set j o) (Γ.set j .no) fp := by
  obtain ⟨fr, len, h1, h2, h3⟩ := e
  refine ⟨fr, by simpa using len, h1, h2, fun m e he => ?_⟩
  by_cases z : j = m
  · subst z
    have hj : j < Γ.length := by simpa using (List.getElem?_eq_some_iff.mp he).1
    rw [List.getElem?_set_self hj] at he
    cases he
    exact ⟨o, by rw [List.getElem?_set_self (by omega)], True.intro⟩
  · rw [List.getElem?_set_ne z] at he
    obtain ⟨o, a, c⟩ := h3 m e he
    exact ⟨o, by rw [List.getElem?_set_ne z]; exact a, c⟩
theorem EnvAt.drop (e : EnvAt K b F H σ Γ fp) (j : Nat) : EnvAt K b F H σ (Γ.set j .no) fp := by
  obtain ⟨fr, len, h1, h2, h3⟩ := e
  refine ⟨fr, by simpa using len, h1, h2, fun m e he => ?_⟩
  by_cases z : j = m
  · subst z
    have hj : j < Γ.length := by simpa using (List.getElem?_eq_some_iff.mp he).1
    rw [List.getElem?_set_self hj] at he
    cases he
    exact ⟨σ[j]'(by omega), List.getElem?_eq_getElem (by omega), True.intro⟩
  · rw [List.getElem?_set_ne z] at he
    exact h3 m e he
theorem sc_noref {α : Type} [Py α] [Scal α] {H : Hp} {l : Addr} {a : α} (h : Dq H (.ref l) (Py.enc a)) : False := by
  have h := Scal.any H (fun _ => none) _ a h
  revert h
  generalize Py.enc a = d
  intro h
  cases h with
  | lst r _ _ => rcases r with r | ⟨_, r⟩ <;> cases r
  | tup r _ _ => rcases r with r | ⟨_, r⟩ <;> cases r
  | obj r _ _ => cases r
theorem inner_of {α : Type} [Py α] [Scal α] {H : Hp} {l : Addr} {vs : List V} {xs : List (List α)} {m : Nat} (hl : H l = some (.lst vs)) (hall : DqAll H vs (xs.map Py.enc)) (hR : ∀ a u, Rd H a u → H a = some u) (hz : ∀ y ∈ xs, y.length ≤ m) :
    ∀ w, w ∈ vs → ∃ l' ws, w = .ref l' ∧ l' ≠ l ∧ H l' = some (.lst ws) ∧ ws.length ≤ m := fun w hw => by
  obtain ⟨i, hi⟩ := List.getElem?_of_mem hw
  obtain ⟨d, hd, dd⟩ := dqa_get hall hi
  rw [List.getElem?_map] at hd
  cases q : xs[i]? with
  | none => rw [q] at hd; cases hd
  | some y =>
    rw [q] at hd
    cases hd
    obtain ⟨l', ws, rfl, hq, _, hall2⟩ := dp_lst dd
    have hl' := hR _ _ hq
    refine ⟨l', ws, rfl, fun z => ?_, hl', ?_⟩
    · subst z
      rw [hl] at hl'
      cases hl'
      obtain ⟨i2, hi2⟩ := List.getElem?_of_mem hw
      obtain ⟨d2, hd2, dd2⟩ := dqa_get hall2 hi2
      rw [List.getElem?_map] at hd2
      cases q2 : y[i2]? with
      | none => rw [q2] at hd2; cases hd2
      | some u =>
        rw [q2] at hd2
        cases hd2
        exact sc_noref dd2
    · rw [dqa_len hall2, List.length_map]
      exact hz y (List.mem_of_getElem? q)
end
section
variable {X : Cx} {b : Bs} {N : List Str} {sc scope : Scope} {mg : Str → Option Value} {W : Str → Bool} {Γ Γ1 Γ2 Γ3 : List En} {k k' rl : Bool} {pos pos' pp tpos : Pos} {e e1 : Expr}
variable {α β γ δ : Type} [ia : Py α] [ib : Py β] [ic : Py γ] [id' : Py δ] {P : V → V → Prop} {j jy : Nat} {apos cpos p1 epos ypos : Pos}
theorem xs_mutAll [Scal α] {y : Str} {xs : List (List α)} {a : δ} {p : β} (r' : Res) (cf : Cf X N sc mg W) (hΓ : Γ[j]? = some (.res (ownD δ a))) (h1 : XR X b j P e1 Γ xs) (hij : j ≠ jy) (hN : N[jy]? = some y) (hy : sc.names.lookup y = some .local) (hW : W y = true) (he : ∀ Γ, XE X b e Γ .bor p) (hz : xs.length ≤ 1000 ∧ ∀ y ∈ xs, y.length ≤ 1000)
    (hr' : ∀ K B F H v0 A l vs, P v0 (.ref l) → A l → H l = some (.lst vs) → vs.length ≤ 1000 → r'.R K B F H v0 A)
    (hjl : decide (jy < Γ.length) = true := by rfl)
    (hbase : attributeBase (.Name y p1) "append" X.env (eval (.Name y p1) X.env) = eval (.Name y p1) X.env := by rfl)
    (hfew : ((backTo cpos (starEach [e] X.env)).all (fun x => !x.1) && (backToKw cpos (keywordEach [] X.env)).all (fun x => x.1.isSome) && decide (([e] : List Expr).length + ([] : List Keyword).length + (if ([] : List Keyword).isEmpty then 0 else 1) < 30)) = true := by rfl)
    (hline : (apos.endLine == cpos.line) = true := by rfl) (hse : starEach [e] X.env = [(false, eval e X.env)] := by rfl) (hsw : swapsWith (.Call (.Attribute (.Name y p1) "append" apos) [e] [] cpos) none epos.line X.env = pure false := by rfl)
    (hd : (y == ("__debug__" : Str)) = false := by decide) (hcd : (y == ("__classdict__" : Str)) = false := by decide)
    (hs : ∀ x, foldedSetIterable e1 X.env x = pure x := by intro _; rfl) :
    XS X b rl (.For (.Name y ypos) e1 [.Expr (.Call (.Attribute (.Name y p1) "append" apos) [e] [] cpos) epos] [] pos) Γ (none : Option γ) ((Γ.set jy .no).set j (.res r')) := by
  have hx' : L2.Loc X.env.scope y := by rw [cf.hs]; exact .inl hy
  have hv' : Vis X.env.scope y := by rw [cf.hs]; exact .inl hy
  have hNy : X.N[jy]? = some y := by rw [cf.hN]; exact hN
  refine PS.wk (ps_for (tb := fun D σ H => ∃ l' ws, σ[jy]? = some (some (.ref l')) ∧ H l' = some (.lst ws) ∧ ws.length < 1000000 ∧ ∃ F Γ, EnvOk X.K b F H σ Γ ∧ ∀ F' H' z, Grow F H F' H' → D.nx σ (upd H' l' (.lst (ws ++ [z]))))
    cf.pass cf.calm (pi_list h1) (pg_name (i := jy) (by rw [cf.hN]; exact cf.nd) hNy hx' (cf.fn y hW)) ⟨fun pins s' σ H D I h => ?_⟩ hs) ?_
  · obtain ⟨l', ws, hσ, hl, hw, F, Γe, ok, kk⟩ := h
    refine (pss_one (PS.wk (ps_expr (pe_bm PySem.F.plainAttrs_list PySem.F.slot_list_append PySem.F.type_list_append mt_append (pe_var (i := jy) hNy hv' hd hcd) (xa_cons (he Γe) xa_nil hse) hbase hfew hline hse) hsw)
      (t' := fun D σ H => ∃ l' ws, σ[jy]? = some (some (.ref l')) ∧ H l' = some (.lst ws) ∧ ws.length < 1000000 ∧ ∃ F, EnvOk X.K b F H σ Γe ∧ ∀ F' H' z, Grow F H F' H' → D.nx σ (upd H' l' (.lst (ws ++ [z])))) ?_)).run _ _ _ _ D I ⟨l', ws, hσ, hl, hw, F, ok, kk⟩
    rintro D σ H ⟨l', ws, hσ, hl, hw, F, ok, kk⟩
    refine ⟨_, hσ, .inl ⟨rfl, ws, .inl (.inl hl)⟩, F, ok, fun us F1 H1 g1 d1 => ?_⟩
    obtain ⟨z, rfl, _⟩ := dql1 d1
    exact ⟨l', ws, z, rfl, rfl, g1.b _ _ hl, Nat.lt_of_lt_of_le hw (by decide), kk F1 H1 z g1⟩
  · rintro D σ0 H0 ⟨F0, ok0, kk⟩
    obtain ⟨fp, oa⟩ := ok0.get
    refine ⟨F0, fp, oa, fun v v0 F1 H1 g1 hv0 hP d1 => ?_⟩
    obtain ⟨l, vs, rfl, hq, hz', hall⟩ := dp_lst d1
    obtain ⟨hA, hl⟩ := rd_reg hq
    have hlen : vs.length = xs.length := by rw [dqa_len hall, List.length_map]
    have hin := inner_of (m := 1000) (reg_mk hA hl rfl) hall (fun a u h => by
      rcases h with h | ⟨o, h⟩
      · exact h
      · exact absurd (reg_at h).2.2 (fun z => by cases z)) hz.2
    have oa1 := oa.gr g1
    have hΓ2 : (Γ.set jy .no)[j]? = some (.res (ownD δ a)) := by rw [List.getElem?_set_ne (Ne.symm hij)]; exact hΓ
    refine ⟨l, rfl, ⟨vs, .inl (.inl hl)⟩, ?_⟩
    let Pv : Nat → L2.St → Hp → Prop := fun i σ H => i ≤ vs.length ∧ σ[j]? = some (some v0) ∧ ∃ F, Ex F1 F ∧ EnvAt X.K b F H σ ((Γ.set jy .no).set j (.res (ownM l vs (1000 + i)))) fp
    refine ⟨fun i m σ H => m = vs.length - i ∧ Pv i σ H, ⟨vs.length, by simp, Nat.zero_le _, hv0, F1, Ex.rf F1, (oa1.drop jy).re hΓ2 fun v _ _ => ⟨hA, hl, fun w hw => ?_⟩⟩, ?_⟩
    · obtain ⟨l', ws, rfl, n, h', z⟩ := hin w hw
      exact ⟨l', ws, rfl, n, (reg_at h').1, (reg_at h').2.1, z⟩
    rintro i m σ H ⟨rfl, hi', hσj, F, eF, oai⟩
    have hjM := set_at (e' := En.res (ownM l vs (1000 + i))) hΓ2
    obtain ⟨o, ho, v, rfl, hAl, hHl, hw⟩ := oai.sl j _ hjM
    by_cases hlt : i < vs.length
    · refine .inr ⟨⟨vs, vs[i], .inl (.inl hHl), List.getElem?_eq_getElem hlt⟩, Pv (i + 1), fun σ' H' h' => ⟨vs.length - (i + 1), by omega, rfl, h'⟩, fun xv H2 hyl => ?_⟩
      obtain ⟨rfl, hx⟩ := hyl
      have hxv := hx vs (.inl (.inl hHl))
      obtain ⟨l', ws, rfl, hne, hA', hl', hwz⟩ := hw _ (List.mem_of_getElem? hxv)
      have hjy : jy < σ.length := by
        have h0 := oai.len
        rw [List.length_set, List.length_set] at h0
        rw [h0]
        exact of_decide_eq_true hjl
      have oas := oai.setN jy (some (V.ref l'))
      have hlw : ws.length < 1000000 := by
        have : i < 1000 := by omega
        omega
      refine ⟨l', ws, by rw [List.getElem?_set_self hjy], hl', hlw, F, _, oas.ok, fun F' H' z g' => ⟨by omega, by rw [List.getElem?_set_ne (Ne.symm hij)]; exact hσj, F', eF.tr g'.f, ?_⟩⟩
      have hset : ((Γ.set jy .no).set j (.res (ownM l vs (1000 + i)))).set jy .no = (Γ.set jy .no).set j (.res (ownM l vs (1000 + i))) := by
        rw [List.set_comm _ _ hij, List.set_set]
      rw [hset] at oas
      have oa2 := oas.gr g'
      have hjM2 := set_at (e' := En.res (ownM l vs (1000 + i))) hΓ2
      have oa3 := oa2.mut (r' := ownM l vs (1000 + (i + 1))) hjM2 (H' := upd H' l' (.lst (ws ++ [z]))) (fun m hm => upd_ne fun q => hm (q ▸ hA')) (fun m hm => by
        by_cases q : m = l'
        · subst q; rw [upd_same]; exact fun q => by cases q
        · rw [upd_ne q]; exact (oa2.ow _ _ hm).1) fun v' _ => ⟨hAl, by rw [upd_ne (Ne.symm hne)]; exact g'.b _ _ hHl, fun w hww => ?_⟩
      · rw [List.set_set] at oa3
        exact oa3
      · obtain ⟨l2, ws2, rfl, n2, a2, h2, z2⟩ := hw w hww
        by_cases q : l2 = l'
        · subst q
          rw [hl'] at h2
          cases h2
          exact ⟨l2, ws ++ [z], rfl, n2, a2, upd_same, by rw [List.length_append]; simp; omega⟩
        · exact ⟨l2, ws2, rfl, n2, a2, by rw [upd_ne q]; exact g'.b _ _ h2, by omega⟩
    · refine .inl ⟨⟨vs, .inl (.inl hHl), by omega⟩, ?_⟩
      have oaf := oai.re (r' := r') hjM fun v'' hv'' hr => hr' _ _ _ _ _ _ _ _ (by rw [hσj] at hv''; cases hv''; exact hP) hr.1 hr.2.1 (by omega)
      rw [List.set_set] at oaf
      exact kk σ F H (g1.f.tr eF) oaf.ok
theorem xs_mutX [Scal α] {x y : Str} {xs : List (List α)} {p : β} {xpos : Pos} (cf : Cf X N sc mg W) (hNx : N[j]? = some x) (hvx : Vis sc x) (hΓ : Γ[j]? = some (.res (ownD (List (List α)) xs))) (hij : j ≠ jy) (hN : N[jy]? = some y) (hy : sc.names.lookup y = some .local) (hW : W y = true) (he : ∀ Γ, XE X b e Γ .bor p) (hz : xs.length ≤ 1000 ∧ ∀ y ∈ xs, y.length ≤ 1000)
    (hjl : decide (jy < Γ.length) = true := by rfl)
    (hdx : (x == ("__debug__" : Str)) = false := by decide) (hcdx : (x == ("__classdict__" : Str)) = false := by decide)
    (hbase : attributeBase (.Name y p1) "append" X.env (eval (.Name y p1) X.env) = eval (.Name y p1) X.env := by rfl)
    (hfew : ((backTo cpos (starEach [e] X.env)).all (fun x => !x.1) && (backToKw cpos (keywordEach [] X.env)).all (fun x => x.1.isSome) && decide (([e] : List Expr).length + ([] : List Keyword).length + (if ([] : List Keyword).isEmpty then 0 else 1) < 30)) = true := by rfl)
    (hline : (apos.endLine == cpos.line) = true := by rfl) (hse : starEach [e] X.env = [(false, eval e X.env)] := by rfl) (hsw : swapsWith (.Call (.Attribute (.Name y p1) "append" apos) [e] [] cpos) none epos.line X.env = pure false := by rfl)
    (hd : (y == ("__debug__" : Str)) = false := by decide) (hcd : (y == ("__classdict__" : Str)) = false := by decide) (hs : ∀ z, foldedSetIterable (.Name x xpos) X.env z = pure z := by intro _; rfl) :
    XS X b rl (.For (.Name y ypos) (.Name x xpos) [.Expr (.Call (.Attribute (.Name y p1) "append" apos) [e] [] cpos) epos] [] pos) Γ (none : Option γ) ((Γ.set jy .no).set j (.res (ownB 1000))) :=
  xs_mutAll (ownB 1000) cf hΓ (xr_var cf j hNx hvx hΓ hdx hcdx) hij hN hy hW he hz (fun K B F H v0 A l vs e a h z => ⟨l, vs, e, a, h, z⟩) hjl hbase hfew hline hse hsw hd hcd hs
def ownN : Res := ⟨fun _ _ _ _ _ _ => True, fun _ _ _ => trivial⟩
end
/-! ### what is one's own, lent to an expression -/
section
variable {K : PySem.W.Frag} {b : Bs} {F H F' H' : Hp} {σ : L2.St} {Γ : List En} {fp : Nat → Addr → Prop}
noncomputable def join (A : Addr → Prop) (F H : Hp) : Hp := fun l => match reg A H l with
  | some o => some o
  | none => F l
theorem join_out {A : Addr → Prop} {F H : Hp} {l : Addr} (h : ¬ A l) : join A F H l = F l := by
  unfold join
  have : reg A H l = none := by unfold reg; rw [if_neg h]
  rw [this]
theorem EnvOk.lend {α : Type} {ia : Py α} {a : α} {j : Nat} (e : EnvOk K b F H σ Γ) (hj : Γ[j]? = some (.res (ownD α a))) : ∃ Fu, EnvOk K b Fu H σ (Γ.set j (.dat α ia false a)) ∧ Ex F Fu := by
  obtain ⟨fp, fr, len, h1, h2, h3⟩ := e.get
  have eF : Ex F (join (fp j) F H) := fun l o q => by
    rw [join_out]
    · exact q
    · intro z; rw [(h2 j l z).2.1] at q; cases q
  have eH : Ex (join (fp j) F H) H := fun l o q => by
    unfold join at q
    cases z : reg (fp j) H l with
    | some u => rw [z] at q; cases q; exact reg_le _ _ z
    | none => rw [z] at q; exact fr.h l o q
  obtain ⟨o0, ho0, v0, rfl, d0⟩ := h3 j _ hj
  refine ⟨join (fp j) F H, ⟨⟨fr.f.tr eF, eH, fr.b, fun l hl => ?_⟩, by simpa using len, fun m => if m = j then fun _ => False else fp m, fun m n l hm hn => ?_, fun m l hm => ?_, fun m e he => ?_⟩, eF⟩
  · rw [join_out]
    · exact fr.n l hl
    · intro z; exact hl (h2 j l z).2.2
  · by_cases z : m = j
    · simp only [if_pos z] at hm
    · by_cases y : n = j
      · simp only [if_pos y] at hn
      · simp only [if_neg z, if_neg y] at hm hn
        exact h1 m n l hm hn
  · by_cases z : m = j
    · simp only [if_pos z] at hm
    · simp only [if_neg z] at hm
      obtain ⟨p, q, r⟩ := h2 m l hm
      exact ⟨p, by rw [join_out fun y => z (h1 m j l hm y)]; exact q, r⟩
  · by_cases z : j = m
    · subst z
      have hjl : j < Γ.length := by simpa using (List.getElem?_eq_some_iff.mp he).1
      rw [List.getElem?_set_self hjl] at he
      cases he
      refine ⟨_, ho0, v0, rfl, dq_mo (fun l o q => ?_) _ _ d0⟩
      show join (fp j) F H l = some o
      unfold join
      rw [q]
    · rw [List.getElem?_set_ne z] at he
      obtain ⟨o, a, c⟩ := h3 m e he
      refine ⟨o, a, ?_⟩
      simp only [if_neg (Ne.symm z)]
      exact c.gr eF fun _ _ _ q => q
theorem Grow.same {F H H' : Hp} (e : Ex F H) (g : Ex H H') : Grow F H F H' := ⟨Ex.rf F, e.tr g, g, fun _ _ => rfl⟩
end
section
variable {X : Cx} {b : Bs} {Γ : List En} {lv lc : Lv} {e : Expr} {j : Nat} {α β γ : Type} {ia : Py α} [ib : Py β] {a : α}
theorem xe_lend [Scal β] {p : β} (hj : Γ[j]? = some (.res (ownD α a))) (h : XE X b e (Γ.set j (.dat α ia false a)) lv p) : XE X b e Γ lc p :=
  PE.wk h fun σ H Q ⟨F, ok, kk⟩ => by
    obtain ⟨Fu, ok', _⟩ := ok.lend hj
    exact ⟨Fu, ok', fun v F' H' g d => kk v F H' (Grow.same ok.fr.h g.b) (Scal.any _ _ _ _ d)⟩
theorem xt_lend {c : Bool} (hj : Γ[j]? = some (.res (ownD α a))) (h : XT X b e (Γ.set j (.dat α ia false a)) c) : XT X b e Γ c :=
  PT.wk h fun σ H Q ⟨F, ok, kk⟩ => by
    obtain ⟨Fu, ok', _⟩ := ok.lend hj
    exact ⟨Fu, ok', fun F' H' g => kk F H' (Grow.same ok.fr.h g.b)⟩
open Classical in
theorem xd_lend {p : β} (hj : Γ[j]? = some (.res (ownD α a))) (h : XD X b e (Γ.set j (.dat α ia false a)) p) : XD X b e Γ p :=
  PE.wk h fun σ H Q ⟨F, ok, kk⟩ => by
    obtain ⟨Fu, ok', eF⟩ := ok.lend hj
    refine ⟨Fu, ok', fun v F' H' g d => kk v (fun l => if H l = none then F' l else F l) H' ⟨fun l o q => ?_, fun l o q => ?_, g.b, fun l hl => if_neg hl⟩ (dq_mo (fun l o q => ?_) _ _ d)⟩
    · have : H l ≠ none := fun z => by rw [ok.fr.h l o q] at z; cases z
      show (if H l = none then F' l else F l) = some o
      rw [if_neg this]; exact q
    · have q : (if H l = none then F' l else F l) = some o := q
      split at q
      · exact g.h l o q
      · exact g.b l o (ok.fr.h l o q)
    · simp only [sel2] at q ⊢
      cases z : H l with
      | some u => rw [z] at q; cases q
      | none => rw [z] at q; simpa [z] using q
end
end Zk

namespace Zk
open PySem PySem.Spec PyProof.Rows L2

/-! ### the law's head -/
def noLst (K : PySem.W.Frag) : Bool := K.all fun p => match p.2.cls with
  | .type s => s != "list"
  | _ => true
theorem lookup_mem {β : Type} : ∀ {K : List (Addr × β)} {a : Addr} {o : β}, K.lookup a = some o → ∃ b, (b, o) ∈ K
  | [], _, _, h => by cases h
  | (c, u) :: K, a, o, h => by
    rw [List.lookup_cons] at h
    cases q : a == c with
    | true => rw [q] at h; cases h; exact ⟨_, List.mem_cons_self⟩
    | false =>
      rw [q] at h
      obtain ⟨b, hb⟩ := lookup_mem h
      exact ⟨b, List.mem_cons_of_mem _ hb⟩
theorem rd_of {K : PySem.W.Frag} {H : Hp} {a : Addr} {xs : List V} (hK : noLst K = true) (h : SqL K H a xs) : Rd H a (.lst xs) := by
  rcases h with h | ⟨o, its, n, hl, hc, _⟩
  · exact h
  · obtain ⟨b, hb⟩ := lookup_mem hl
    have := List.all_eq_true.mp hK _ hb
    simp only [hc] at this
    exact absurd this (by decide)
def LawOk (q : List Int → Prop) (m : List Int → Bool) : Prop := ∀ ns : List Int, ns.length ≤ 63 → (∀ z ∈ ns, Builtin.Int.intBits z ≤ 1048576) → q ns ∧ m ns = true
def spL (K : PySem.W.Frag) : Sp := fun vs H Q _ => ∃ (a : Addr) (ns : List Int), vs = [.ref a] ∧ (ns.length ≤ 63 ∧ ∀ z ∈ ns, Builtin.Int.intBits z ≤ 1048576) ∧ SqL K H a (ns.map V.int) ∧ ∀ v H', v = .bl true → Q v H'
theorem spL_imp {K : PySem.W.Frag} {q : List Int → Prop} {m : List Int → Bool} (hK : noLst K = true) (h : LawOk q m) (vs : List V) (H : Hp) (Q : VK) (E : XK) (s : spL K vs H Q E) :
    spI false (fun (i : {p : List Int // q p}) => [dv false i.1]) (fun i => Py.enc (m i.1)) vs H Q E := by
  obtain ⟨a, ns, rfl, ⟨hl, hb⟩, hS, hQ⟩ := s
  have hz : (ns.map V.int).length ≤ sizeLine := by rw [List.length_map]; exact Nat.le_trans hl (by decide)
  refine ⟨H, ⟨ns, (h ns hl hb).1⟩, Ex.rf H, .cons (.lst (rd_of hK hS) hz (ints_dqa ns)) .nil, fun v F' H' g d => hQ v H' ?_⟩
  have e : m ns = true := (h ns hl hb).2
  have d : Dq (sel2 H F' false) v (Py.enc (m ns)) := d
  rw [e] at d
  exact dp_bl d
end Zk

namespace Zk
open PySem PySem.Spec PyProof.Rows L2 PySem.W

/-! ### sorted(xs) of data of one kind -/
def sortD {α : Type} [Py α] (xs : List α) : List α := xs.mergeSort (dataLe false Py.enc)
class SortOk (α : Type) [Py α] (n : outParam Nat) : Prop where
  ali : ∀ a b : α, alike (Py.enc a) (Py.enc b) = true
  srt : (∀ a : α, ∃ x r, (Py.enc a : PyData) = .tuple (x :: r)) ∨ ∀ a : α, (Py.enc a : PyData) ≠ .none ∧ ∀ xs, (Py.enc a : PyData) ≠ .tuple xs
  dep : ∀ a : α, (Py.enc a).depth ≤ n
  lay : ∀ a : α, (Py.enc a).canLay0 = true
instance soInt : SortOk Int 0 := ⟨fun a b => by simp [Py.enc, alike], .inr fun a => ⟨fun z => (by cases z), fun xs z => (by cases z)⟩, fun a => by simp [Py.enc, PyData.depth], fun a => by simp [Py.enc, PyData.canLay0]⟩
theorem ali_map {α : Type} [Py α] {n : Nat} [SortOk α n] : ∀ xs ys : List α, alikeAll (xs.map Py.enc) (ys.map Py.enc) = true
  | [], _ => by simp [alikeAll]
  | _ :: _, [] => by simp [alikeAll]
  | x :: xs, y :: ys => by
    rw [List.map_cons, List.map_cons, alikeAll, SortOk.ali, ali_map xs ys]
    rfl
theorem lay_mapS {α : Type} [Py α] {n : Nat} [SortOk α n] : ∀ xs : List α, PyData.canLayAll0 (xs.map Py.enc) = true
  | [] => by simp [PyData.canLayAll0]
  | x :: xs => by rw [List.map_cons, PyData.canLayAll0, SortOk.lay, lay_mapS xs]; rfl
theorem dep_mapS {α : Type} [Py α] {n : Nat} [SortOk α n] : ∀ xs : List α, PyData.depthAll (xs.map Py.enc) ≤ n
  | [] => by simp [PyData.depthAll]
  | x :: xs => by
    rw [List.map_cons, PyData.depthAll]
    have h1 := SortOk.dep x
    have h2 := dep_mapS xs
    omega
instance soList {α : Type} [Py α] {n : Nat} [SortOk α n] : SortOk (List α) (n + 1) := ⟨fun a b => by
  show alike (.list _) (.list _) = true
  rw [alike, ali_map], .inr fun a => ⟨fun z => (by cases z), fun xs z => (by cases z)⟩, fun a => by
  show PyData.depth (.list _) ≤ n + 1
  rw [PyData.depth]
  have := dep_mapS a
  omega, fun a => by
  show PyData.canLay0 (.list _) = true
  rw [PyData.canLay0, lay_mapS]⟩
instance soProd {α β : Type} [Py α] [Py β] {n m : Nat} [SortOk α n] [SortOk β m] : SortOk (α × β) (max n m + 1) := ⟨fun a b => by
  show alike (.tuple _) (.tuple _) = true
  simp [alike, alikeAll, SortOk.ali], .inl fun a => ⟨_, _, rfl⟩, fun a => by
  show PyData.depth (.tuple _) ≤ _
  simp only [PyData.depth, PyData.depthAll]
  have h1 := SortOk.dep a.1
  have h2 := SortOk.dep a.2
  omega, fun a => by
  show PyData.canLay0 (.tuple _) = true
  simp [PyData.canLay0, PyData.canLayAll0, SortOk.lay]⟩
def rSortD (α : Type) [Py α] : List V → Hp → VK → Prop := fun vs H Q => ∃ (a : Addr) (xs : List V) (bs : List α) (Hs : Hp), vs = [V.ref a] ∧ Rd H a (.lst xs) ∧ xs.length ≤ sizeLine ∧ Ex Hs H ∧ DqAll Hs xs (bs.map Py.enc) ∧
  ∀ ys p, ys.length = xs.length → DqAll Hs ys ((sortD bs).map Py.enc) → H p = none → Q (.ref p) (upd H p (.lst ys))
section
variable {X : Cx} {α : Type} [Py α]
theorem each_of {Hs : Hp} : ∀ {bs : List α} {xs : List V} {us : List Value}, DqAll Hs xs (bs.map Py.enc) → Vals xs us → EachIs (fun (v : Value) (b : α) => ∃ x, RelV x v ∧ Dq Hs x (Py.enc b)) us bs
  | [], _, _, h, r => by
    cases h
    cases r
    exact .nil
  | b :: bs, _, _, h, r => by
    cases h with
    | cons h1 h2 =>
      cases r with
      | cons r1 r2 => exact .cons ⟨_, r1, h1⟩ (each_of h2 r2)
theorem of_each {Hs : Hp} : ∀ {bs : List α} {us : List Value}, EachIs (fun (v : Value) (b : α) => ∃ x, RelV x v ∧ Dq Hs x (Py.enc b)) us bs → ∃ xs, Vals xs us ∧ DqAll Hs xs (bs.map Py.enc)
  | _, _, .nil => ⟨[], .nil, .nil⟩
  | _, _, .cons ⟨x, r, d⟩ t => by
    obtain ⟨xs, h1, h2⟩ := of_each t
    exact ⟨x :: xs, .cons r h1, .cons d h2⟩
theorem cr_sortD {n : Nat} [SortOk α n] (hn : n ≤ 60) (hu : X.A.units + 65 < cLine) : CallR X (.builtin "sorted") (rSortD α) := by
  intro pins s σ H vs us Q I r h
  obtain ⟨a, xs, bs, Hs, rfl, hs, hz, eH, hall, q⟩ := h
  obtain ⟨its, rv, hl, _⟩ := I.list (.inl hs)
  rw [Vals.ref1 r]
  have e1 := each_of hall rv
  have hbl : bs.length = xs.length := by rw [dqa_len hall, List.length_map]
  have er : EachIs (fun (v : Value) (b : α) => ∃ as, Reads s.heap v (Py.enc b) as) its bs := e1.mono fun v b ⟨x, r, d⟩ => Dp.reads I _ x v (dq_dp _ _ (SortOk.lay b) (dq_mo eH _ _ d)) r
  refine PySem.W.sorted_data hl.isList e1 er (AllAlike.of fun b b' => SortOk.ali b b') ?_ (by omega) (fun b _ => ?_) fun out hlen ho => ?_
  · rcases (SortOk.srt : (∀ a : α, ∃ x r, (Py.enc a : PyData) = .tuple (x :: r)) ∨ ∀ a : α, (Py.enc a : PyData) ≠ .none ∧ ∀ xs, (Py.enc a : PyData) ≠ .tuple xs) with h | h
    · exact Sortable.tuples h
    · exact Sortable.others h
  · have := SortOk.dep b
    omega
  · obtain ⟨ys, h1, h2⟩ := of_each ho
    obtain ⟨ep, he'⟩ := PyProof.Rows.sortedAll_at s.heap its out.toArray
    have hly : ys.length = xs.length := by rw [h1.length, hlen, hbl]
    exact ⟨.ref _, upd H (s.heap.objs.size + 1) (.lst ys), I.laid (t' := s.toks) (fun _ _ => PyProof.Rows.sortedAll_old) (Nat.le_succ _) ⟨by omega, out, ep, h1, he'⟩, rfl, q ys _ hly h2 (I.hok.fresh (Nat.le_succ _))⟩
variable {b : Bs} {N : List Str} {sc : Scope} {mg : Str → Option Value} {W : Str → Bool} {la lc : Lv}
theorem cl_sortD (c : Cf X N sc mg W) {n : Nat} [SortOk α n] {xs : List α} (hn : Nat.ble n 60 = true := by rfl) : CalV X b (.builtin "sorted") [(la, Py.enc xs)] la (Py.enc (sortD xs)) := ⟨_, cr_sortD (α := α) (Nat.le_of_ble_eq_true hn) c.un, fun F H vs Q fz h k => by
  obtain ⟨v, rfl, d⟩ := dql1 h
  obtain ⟨a, ws, rfl, hq, hzz, hall⟩ := dp_lst d
  exact ⟨a, ws, xs, _, rfl, rd_sel fz hq, hzz, sel_le fz.h la, hall, fun ys p hy hd hp => new_lst fz hd (by omega) hp k⟩⟩
theorem cl_sortS (c : Cf X N sc mg W) [Scal α] {n : Nat} [SortOk α n] {xs : List α} (hn : Nat.ble n 60 = true := by rfl) : CalV X b (.builtin "sorted") [(la, Py.enc xs)] lc (Py.enc (sortD xs)) := ⟨_, cr_sortD (α := α) (Nat.le_of_ble_eq_true hn) c.un, fun F H vs Q fz h k => by
  obtain ⟨v, rfl, d⟩ := dql1 h
  obtain ⟨a, ws, rfl, hq, hzz, hall⟩ := dp_lst d
  exact ⟨a, ws, xs, _, rfl, rd_sel fz hq, hzz, sel_le fz.h la, hall, fun ys p hy hd hp => new_lst fz (dqa_sc _ _ hd) (by omega) hp k⟩⟩
end
end Zk

namespace Zk
open PySem PySem.Spec PyProof.Rows L2
section
variable {X : Cx} {b : Bs} {N : List Str} {sc scope : Scope} {mg : Str → Option Value} {W : Str → Bool} {Γ Γ' Γ1 Γ2 : List En} {k k' rl : Bool} {lv la lb lc : Lv} {pos pos' py lpos : Pos} {e e1 e2 e3 t tg it elt : Expr}
variable {α β γ δ : Type} [ia : Py α] [ib : Py β] [ic : Py γ]
/-- x, y = e, [] -/
theorem xs_parO {i j : Nat} {x y : Str} {px pt : Pos} {kt k2 pt2} {p : α} (c : Cf X N sc mg W) (hi : N[i]? = some x) (hj : N[j]? = some y) (hij : i ≠ j) (hx : sc.names.lookup x = some .local) (hy : sc.names.lookup y = some .local)
    (h1 : XE X b e1 Γ (.st k) p) (α' : Type) [ia' : Py α'] (hw : swappedStores [.Tuple [.Name x px, .Name y py] kt pt] (.Tuple [e1, .List [] lpos] k2 pt2) X.env = pure (some [x, y]))
    (hs1 : starEach [e1, .List [] lpos] X.env = (false, eval e1 X.env) :: starEach [.List [] lpos] X.env := by rfl) (hs2 : starEach [.List [] lpos] X.env = [(false, eval (.List [] lpos) X.env)] := by rfl) :
    XS X b rl (.Assign [.Tuple [.Name x px, .Name y py] kt pt] (.Tuple [e1, .List [] lpos] k2 pt2) pos) Γ (none : Option γ) ((Γ.set i (.dat α ia k p)).set j (.res (ownR α' true []))) :=
  PS.wk (ps_par c.calm (by rw [c.hN]; exact c.nd) (by rw [c.hN]; exact hi) (by rw [c.hN]; exact hj) hij (by rw [c.hs]; exact hx) (by rw [c.hs]; exact hy) (pa_cons h1 (pa_cons (pe_lst pa_nil) pa_nil hs2) hs1) hw rfl) fun D σ H ⟨F, ok, kk⟩ => ⟨F, ok, fun v F1 H1 g1 d1 => by
    refine ⟨Nat.zero_le _, fun l hl => ⟨v, .ref l, rfl, kk _ F1 (upd H1 l (.lst [])) g1.f ?_⟩⟩
    have ok1 := (ok.gr g1).setD d1 i
    have hF : F1 l = none := g1.h.no hl
    refine ok1.newR (F' := F1) (H' := upd H1 l (.lst [])) (r := ownR α' true []) (A := fun m => m = l) ⟨Ex.rf F1, g1.h.tr (Ex.nw hl), Ex.nw hl, fun _ _ => rfl⟩ (fun m hm => ?_) ⟨l, [], rfl, fun m => Iff.rfl, upd_same, Nat.zero_le _, .nil⟩ j
    have hm' : m = l := hm
    subst hm'
    exact ⟨hl, by rw [upd_same]; simp, hF⟩⟩
end
end Zk

namespace Zk
open PySem PySem.Spec PyProof.Rows L2

/-! ### plain facts about numbers -/
def Bd (x : Int) (k : Nat) : Prop := x.natAbs < 2 ^ k
theorem Bd.mul {x y : Int} {k l : Nat} (h : Bd x k) (h' : Bd y l) : Bd (x * y) (k + l) := by
  unfold Bd at *
  rw [Int.natAbs_mul, Nat.pow_add]
  exact Nat.mul_lt_mul'' h h'
theorem Bd.up {x : Int} {k l : Nat} (h : Bd x k) (hk : k ≤ l) : Bd x l := Nat.lt_of_lt_of_le h (Nat.pow_le_pow_right (by decide) hk)
theorem Bd.add {x y : Int} {k l : Nat} (h : Bd x k) (h' : Bd y l) : Bd (x + y) (k + l + 1) := by
  have h1 := h.up (Nat.le_add_right k l)
  have h2 := h'.up (Nat.le_add_left l k)
  unfold Bd at *
  have := Int.natAbs_add_le x y
  rw [Nat.pow_succ]
  omega
theorem log_lt {n k : Nat} (h : n < 2 ^ k) : n.log2 ≤ k := by
  by_cases z : n = 0
  · subst z
    simp
  · exact Nat.le_of_lt ((Nat.log2_lt z).mpr h)
theorem Bd.ok {x y : Int} {k l : Nat} (h : Bd x k) (h' : Bd y l) (hk : k + l ≤ 99999999) : MulOk x y := by
  have h1 := log_lt h
  have h2 := log_lt h'
  show x.natAbs.log2 + y.natAbs.log2 < 100000000
  omega
theorem Bd.bits {z : Int} {n : Nat} (h : Builtin.Int.intBits z ≤ n) : Bd z n := by
  unfold Bd
  unfold Builtin.Int.intBits at h
  split at h
  · rename_i q
    have q' : z = 0 := by simpa using q
    subst q'
    exact Nat.two_pow_pos n
  · rename_i q
    have q' : z.natAbs ≠ 0 := by
      intro y
      apply q
      have : z = 0 := by omega
      simp [this]
    exact (Nat.log2_lt q').mp (by omega)
theorem Bd.lit {x : Int} {k : Nat} (h : Nat.blt x.natAbs (2 ^ k) = true) : Bd x k := by
  unfold Nat.blt at h
  exact Nat.le_of_ble_eq_true h
theorem Bd.lt {x : Int} {k : Nat} (m : Nat) (h : x.natAbs < m) (hm : Nat.ble m (2 ^ k) = true) : Bd x k := Nat.lt_of_lt_of_le h (Nat.le_of_ble_eq_true hm)
theorem div_small {x y : Int} (h0 : 0 < y) (h1 : y < 1000000) : CDivW x y := ⟨h0, by
  have : y.natAbs < 2 ^ 20 := by omega
  have := log_lt this
  omega⟩
/-! ### rising lists -/
def Ris (n : Int) (f : List Int) : Prop := f.Pairwise (· < ·) ∧ ∀ x ∈ f, 0 ≤ x ∧ x < n
theorem mem_rg {lo : Int} {n : Nat} {x : Int} : x ∈ rg lo n ↔ lo ≤ x ∧ x < lo + n := by
  unfold rg
  rw [List.mem_map]
  constructor
  · rintro ⟨i, hi, rfl⟩
    rw [List.mem_range] at hi
    omega
  · rintro ⟨h1, h2⟩
    refine ⟨(x - lo).toNat, ?_, by omega⟩
    rw [List.mem_range]
    omega
theorem rg_get {lo : Int} {n i : Nat} {x : Int} (h : (rg lo n)[i]? = some x) : i < n ∧ x = lo + i := by
  unfold rg at h
  rw [List.getElem?_map] at h
  by_cases hi : i < n
  · rw [List.getElem?_range hi] at h
    cases h
    exact ⟨hi, rfl⟩
  · rw [List.getElem?_eq_none (by simpa using hi)] at h
    cases h
theorem rg_pw (lo : Int) (n : Nat) : (rg lo n).Pairwise (· < ·) := by
  unfold rg
  rw [List.pairwise_map]
  refine List.Pairwise.imp ?_ List.pairwise_lt_range
  intro a b h
  omega
theorem ris_rg {n : Int} {k : Nat} (h : (k : Int) ≤ n) : Ris n (rg 0 k) := ⟨rg_pw 0 k, fun x hx => by
  have := mem_rg.mp hx
  omega⟩
theorem Ris.filter {n : Int} {f : List Int} (h : Ris n f) (p : Int → Bool) : Ris n (f.filter p) := ⟨h.1.sublist List.filter_sublist, fun x hx => h.2 x (List.mem_filter.mp hx).1⟩
theorem Ris.up {n m : Int} {f : List Int} (h : Ris n f) (hm : n ≤ m) : Ris m f := ⟨h.1, fun x hx => ⟨(h.2 x hx).1, Int.lt_of_lt_of_le (h.2 x hx).2 hm⟩⟩
theorem ris_one {n x : Int} (h0 : 0 ≤ x) (h1 : x < n) : Ris n [x] := ⟨List.pairwise_singleton _ _, fun y hy => by
  have : y = x := by simpa using hy
  omega⟩
theorem ris_len_aux : ∀ (f : List Int) (a n : Int), f.Pairwise (· < ·) → (∀ x ∈ f, a ≤ x ∧ x < n) → a ≤ n → (f.length : Int) ≤ n - a
  | [], a, n, _, _, h => by simp; omega
  | x :: f, a, n, hp, hm, _ => by
    have hx := hm x List.mem_cons_self
    rw [List.pairwise_cons] at hp
    have := ris_len_aux f (x + 1) n hp.2 (fun y hy => ⟨by have := hp.1 y hy; omega, (hm y (List.mem_cons_of_mem _ hy)).2⟩) (by omega)
    rw [List.length_cons]
    omega
theorem Ris.len {n : Int} {f : List Int} (h : Ris n f) (h0 : 0 ≤ n) : (f.length : Int) ≤ n := by
  have := ris_len_aux f 0 n h.1 h.2 h0
  omega
theorem atI_nn {α : Type} {xs : List α} {i : Int} (h0 : 0 ≤ i) (h1 : i < xs.length) : atI xs i = xs[i.toNat]? := by
  unfold atI ixN
  rw [if_pos h0, if_pos (by omega)]
  rfl
theorem in_nn {α : Type} {xs : List α} {i : Int} (h0 : 0 ≤ i) (h1 : i < xs.length) : InL xs i := by
  unfold InL
  rw [atI_nn h0 h1, List.getElem?_eq_getElem (by omega)]
  rfl
theorem getL_nn {α : Type} [Inhabited α] {xs : List α} {i : Int} (h0 : 0 ≤ i) (h1 : i < xs.length) : getL xs i = xs[i.toNat]'(by omega) := by
  unfold getL
  rw [atI_nn h0 h1, List.getElem?_eq_getElem (by omega)]
  rfl
theorem ris_step {f : List Int} (h : f.Pairwise (· < ·)) {i : Int} (h0 : 1 ≤ i) (h1 : i < f.length) : getL f (i - 1) < getL f i := by
  rw [getL_nn (by omega) (by omega), getL_nn (by omega) h1]
  exact List.pairwise_iff_getElem.mp h _ _ _ _ (by omega)
theorem foldl_take {S α : Type} {step : S → α → S} {xs : List α} {s0 : S} (P : Nat → S → Prop) (h0 : P 0 s0) (hs : ∀ i s x, xs[i]? = some x → P i s → P (i + 1) (step s x)) : ∀ i, i ≤ xs.length → P i ((xs.take i).foldl step s0)
  | 0, _ => by simpa using h0
  | i + 1, h => by
    have hx : xs[i]? = some (xs[i]'(by omega)) := List.getElem?_eq_getElem (by omega)
    rw [foldl_Iv step xs s0 i _ _ hx rfl]
    exact hs i _ _ hx (foldl_take P h0 hs i (by omega))
theorem foldl_all {S α : Type} {step : S → α → S} {xs : List α} {s0 : S} (P : Nat → S → Prop) (h0 : P 0 s0) (hs : ∀ i s x, xs[i]? = some x → P i s → P (i + 1) (step s x)) : P xs.length (xs.foldl step s0) := by
  have := foldl_take P h0 hs xs.length (Nat.le_refl _)
  rwa [List.take_length] at this
theorem lt_of_get {α : Type} {xs : List α} {i : Nat} {x : α} (h : xs[i]? = some x) : i < xs.length := (List.getElem?_eq_some_iff.mp h).1
theorem mem_of_get {α : Type} {xs : List α} {i : Nat} {x : α} (h : xs[i]? = some x) : x ∈ xs := List.mem_of_getElem? h
/-- a loop in which nothing hands back -/
theorem loop_none {S α β : Type} {o : S → α → Option β} {step : S → α → S} : ∀ {xs : List α} {s0 : S}, (∀ s x, x ∈ xs → o s x = none) → loopR o step xs s0 = (none, xs.foldl step s0)
  | [], s0, _ => rfl
  | x :: xs, s0, h => by
    show (match o s0 x with | some r => (some r, s0) | none => loopR o step xs (step s0 x)) = _
    rw [h s0 x List.mem_cons_self]
    exact loop_none fun s y hy => h s y (List.mem_cons_of_mem _ hy)
theorem cutL_take {α : Type} {xs : List α} {i : Int} (h0 : 0 ≤ i) : cutL xs none (some i) = xs.take i.toNat := by
  unfold cutL HT.sIx
  simp only []
  have : ¬ i < 0 := by omega
  simp only [if_neg this, List.drop_zero, Nat.sub_zero]
  by_cases h : i.toNat ≤ xs.length
  · rw [Nat.min_eq_left (by omega)]
  · rw [Nat.min_eq_right (by omega), List.take_of_length_le (Nat.le_refl _), List.take_of_length_le (by omega)]
/-! ### families -/
structure Fam (P M : Int) (F : Int × List (List Int)) : Prop where
  n1 : 1 ≤ F.1
  n2 : F.1 ≤ P
  ne : F.2 ≠ []
  len : (F.2.length : Int) ≤ M
  nd : F.2.Nodup
  ris : ∀ f ∈ F.2, Ris F.1 f
theorem Fam.lenIn {P M : Int} {F : Int × List (List Int)} (h : Fam P M F) {f : List Int} (hf : f ∈ F.2) : (f.length : Int) ≤ F.1 := (h.ris f hf).len (by have := h.n1; omega)
theorem not_earlier {α : Type} [DecidableEq α] {xs : List α} (h : xs.Nodup) {i : Nat} {x : α} (hx : xs[i]? = some x) : x ∉ xs.take i := by
  intro hm
  obtain ⟨j, hj⟩ := List.getElem?_of_mem hm
  rw [List.getElem?_take] at hj
  split at hj
  · rename_i hlt
    obtain ⟨h1, e1⟩ := List.getElem?_eq_some_iff.mp hj
    obtain ⟨h2, e2⟩ := List.getElem?_eq_some_iff.mp hx
    have := (List.pairwise_iff_getElem.mp h) j i h1 h2 hlt
    exact this (e1.trans e2.symm)
  · cases hj
theorem mem_enum {α : Type} {xs : List α} {p : Int × α} (h : p ∈ enumL xs) : 0 ≤ p.1 ∧ p.1 < xs.length ∧ xs[p.1.toNat]? = some p.2 := by
  unfold enumL at h
  rw [List.mem_map] at h
  obtain ⟨⟨x, i⟩, h1, rfl⟩ := h
  have h2 := List.mem_zipIdx' h1
  simp only at h2 ⊢
  refine ⟨by omega, by omega, ?_⟩
  rw [Int.toNat_natCast, List.getElem?_eq_getElem h2.1, ← h2.2]
end Zk

namespace Zk
open PySem PySem.Spec PyProof.Rows L2 PySem.W

/-! ### sorting, to be reckoned with -/
class Ords (α : Type) [Py α] where
  le : α → α → Bool
  eq : ∀ a b : α, dataLe false Py.enc a b = le a b
  anti : ∀ a b : α, le a b = true → le b a = true → a = b
def insS {α : Type} (le : α → α → Bool) (x : α) : List α → List α
  | [] => [x]
  | y :: ys => if le x y then x :: y :: ys else y :: insS le x ys
def isort {α : Type} (le : α → α → Bool) : List α → List α
  | [] => []
  | x :: xs => insS le x (isort le xs)
theorem ins_perm {α : Type} (le : α → α → Bool) (x : α) : ∀ ys : List α, (insS le x ys).Perm (x :: ys)
  | [] => .refl _
  | y :: ys => by
    unfold insS
    split
    · exact .refl _
    · exact ((ins_perm le x ys).cons y).trans (.swap x y ys)
theorem isort_perm {α : Type} (le : α → α → Bool) : ∀ xs : List α, (isort le xs).Perm xs
  | [] => .refl _
  | x :: xs => (ins_perm le x _).trans ((isort_perm le xs).cons x)
theorem ins_pw {α : Type} {le : α → α → Bool} (h : TotalLe le) (x : α) : ∀ ys : List α, ys.Pairwise (fun a b => le a b = true) → (insS le x ys).Pairwise (fun a b => le a b = true)
  | [], _ => List.pairwise_singleton _ _
  | y :: ys, hp => by
    rw [List.pairwise_cons] at hp
    unfold insS
    split
    · rename_i q
      refine List.pairwise_cons.mpr ⟨fun z hz => ?_, List.pairwise_cons.mpr hp⟩
      rcases List.mem_cons.mp hz with rfl | hz
      · exact q
      · exact h.trans _ _ _ q (hp.1 z hz)
    · rename_i q
      refine List.pairwise_cons.mpr ⟨fun z hz => ?_, ins_pw h x ys hp.2⟩
      rcases List.mem_cons.mp ((ins_perm le x ys).mem_iff.mp hz) with rfl | hz
      · exact (h.total z y).resolve_left q
      · exact hp.1 z hz
theorem isort_pw {α : Type} {le : α → α → Bool} (h : TotalLe le) : ∀ xs : List α, (isort le xs).Pairwise (fun a b => le a b = true)
  | [] => .nil
  | x :: xs => ins_pw h x _ (isort_pw h xs)
section
variable {α : Type} [Py α] [Ords α]
theorem dataLe_tot : TotalLe (dataLe false (Py.enc : α → PyData)) := sortLe_total _ false _
theorem ords_tot : TotalLe (Ords.le : α → α → Bool) := by
  have h := dataLe_tot (α := α)
  have e : (dataLe false (Py.enc : α → PyData)) = Ords.le := funext fun a => funext fun b => Ords.eq a b
  rw [e] at h
  exact h
theorem sortD_eq (xs : List α) : sortD xs = isort Ords.le xs := by
  have e : (dataLe false (Py.enc : α → PyData)) = Ords.le := funext fun a => funext fun b => Ords.eq a b
  unfold sortD
  rw [e]
  refine List.Perm.eq_of_pairwise (le := fun a b => Ords.le a b = true) (fun a b _ _ h1 h2 => Ords.anti a b h1 h2) (sort_pairwise ords_tot xs) (isort_pw ords_tot xs) ((List.mergeSort_perm _ _).trans (isort_perm _ _).symm)
theorem sortD_perm {β : Type} [Py β] (xs : List β) : (sortD xs).Perm xs := List.mergeSort_perm _ _
theorem sortD_mem {β : Type} [Py β] {xs : List β} {x : β} : x ∈ sortD xs ↔ x ∈ xs := (sortD_perm xs).mem_iff
theorem sortD_len {β : Type} [Py β] (xs : List β) : (sortD xs).length = xs.length := (sortD_perm xs).length_eq
theorem sortD_pw (xs : List α) : (sortD xs).Pairwise (fun a b => Ords.le a b = true) := by
  rw [sortD_eq]
  exact isort_pw ords_tot xs
/-- one list for all turns -/
theorem sortD_of_perm {xs ys : List α} (h : xs.Perm ys) : sortD xs = sortD ys := by
  rw [sortD_eq, sortD_eq]
  exact List.Perm.eq_of_pairwise (le := fun a b => Ords.le a b = true) (fun a b _ _ h1 h2 => Ords.anti a b h1 h2) (isort_pw ords_tot xs) (isort_pw ords_tot ys) (((isort_perm _ xs).trans h).trans (isort_perm _ ys).symm)
end
instance ordInt : Ords Int := ⟨fun a b => decide (a ≤ b), fun a b => congrFun (congrFun (dataLe_int (β := Int) fun b => b) a) b, fun a b h1 h2 => by
  have := of_decide_eq_true h1
  have := of_decide_eq_true h2
  omega⟩
instance ordRow : Ords (List Int) := ⟨fun a b => decide (a ≤ b), fun a b => congrFun (congrFun (dataLe_rows (β := List Int) fun b => b) a) b, fun a b h1 h2 => List.le_antisymm (of_decide_eq_true h1) (of_decide_eq_true h2)⟩
def pairLe (p q : Int × List Int) : Bool := if p.1 = q.1 then decide (p.2 ≤ q.2) else decide (p.1 < q.1)
theorem pairLe_eq (p q : Int × List Int) : dataLe false (Py.enc : Int × List Int → PyData) p q = pairLe p q := by
  rw [dataLe_eq]
  show (!dataLt (.tuple [.int q.1, .list (q.2.map .int)]) (.tuple [.int p.1, .list (p.2.map .int)])) = _
  rw [dataLt_pair (by simp [alike]) (by rw [alike, alike_ints])]
  have e1 : PyData.eqv (.int q.1) (.int p.1) = decide (q.1 = p.1) := PyE.eq q.1 p.1
  have e2 : PyData.eqv (.list (q.2.map .int)) (.list (p.2.map .int)) = decide (q.2 = p.2) := PyE.eq q.2 p.2
  have e3 : dataLt (.list (q.2.map .int)) (.list (p.2.map .int)) = decide (q.2 < p.2) := by
    rw [dataLt_list]
    exact dataLt_ints q.2 p.2
  rw [e1, e2, e3, dataLt_int]
  unfold pairLe
  by_cases h : q.1 = p.1
  · rw [decide_eq_true h, if_pos rfl, if_pos h.symm]
    by_cases h2 : q.2 = p.2
    · rw [decide_eq_true h2, if_pos rfl, h2]
      have : p.2 ≤ p.2 := List.le_refl _
      rw [decide_eq_true this]
      rfl
    · rw [decide_eq_false h2, if_neg (by decide)]
      by_cases h3 : q.2 < p.2
      · have h4 : ¬ p.2 ≤ q.2 := fun r => List.not_lt.mpr r h3
        rw [decide_eq_true h3, decide_eq_false h4]
        rfl
      · have h4 : p.2 ≤ q.2 := List.not_lt.mp h3
        rw [decide_eq_false h3, decide_eq_true h4]
        rfl
  · rw [decide_eq_false h, if_neg (by decide), if_neg (fun z => h z.symm)]
    by_cases h3 : q.1 < p.1
    · rw [decide_eq_true h3, decide_eq_false (by omega)]
      rfl
    · rw [decide_eq_false h3, decide_eq_true (by omega)]
      rfl
instance ordPair : Ords (Int × List Int) := ⟨pairLe, pairLe_eq, fun a b h1 h2 => by
  obtain ⟨a1, a2⟩ := a
  obtain ⟨b1, b2⟩ := b
  unfold pairLe at h1 h2
  simp only at h1 h2
  by_cases h : a1 = b1
  · subst h
    rw [if_pos rfl] at h1 h2
    rw [List.le_antisymm (of_decide_eq_true h1) (of_decide_eq_true h2)]
  · rw [if_neg h] at h1
    rw [if_neg (fun z => h z.symm)] at h2
    have := of_decide_eq_true h1
    have := of_decide_eq_true h2
    omega⟩
/-! ### rising lists are sets -/
theorem ris_ext : ∀ {f g : List Int}, f.Pairwise (· < ·) → g.Pairwise (· < ·) → (∀ x, x ∈ f ↔ x ∈ g) → f = g := fun {f g} hf hg h => by
  have nd : ∀ {l : List Int}, l.Pairwise (· < ·) → l.Nodup := fun h => h.imp fun hlt => by omega
  exact List.Perm.eq_of_pairwise (le := fun a b => a < b) (fun a b _ _ h1 h2 => by omega) hf hg ((List.perm_ext_iff_of_nodup (nd hf) (nd hg)).mpr h)
theorem inter_comm {f g : List Int} (hf : f.Pairwise (· < ·)) (hg : g.Pairwise (· < ·)) : (f.filter fun x => memB x g) = (g.filter fun x => memB x f) := by
  refine ris_ext (hf.sublist List.filter_sublist) (hg.sublist List.filter_sublist) fun x => ?_
  rw [List.mem_filter, List.mem_filter, memB_t, memB_t]
  exact And.comm
example : sortD ([[2],[1],[0,1],[]] : List (List Int)) = [[],[0,1],[1],[2]] := by rw [sortD_eq]; decide +kernel
example : sortD ([(1,[2]),(1,[1]),(2,[0,1]),(0,[])] : List (Int × List Int)) = [(0,[]),(1,[1]),(1,[2]),(2,[0,1])] := by rw [sortD_eq]; decide +kernel
end Zk

namespace Zk
open PySem PySem.Spec PyProof.Rows L2 PySem.W

/-! ### what sets leave of some points -/
def trc (points one : List Int) : List Int := points.filter fun x => memB x one
def addB (s : List (List Int)) (p : List Int) : List (List Int) := cond (memB p s) s (s ++ [p])
def traces (sets : List (List Int)) (points : List Int) : List (List Int) := sets.foldl (fun s one => addB s (trc points one)) []
def cutM (sets : List (List Int)) (points : List Int) : List (List Int) := sortD (traces sets points)
theorem addB_len (s : List (List Int)) (p : List Int) : (addB s p).length ≤ s.length + 1 := by
  unfold addB
  cases memB p s <;> simp
theorem addB_mem {s : List (List Int)} {p x : List Int} : x ∈ addB s p ↔ x ∈ s ∨ x = p := by
  unfold addB
  cases h : memB p s with
  | true =>
    show x ∈ s ↔ _
    constructor
    · exact .inl
    · rintro (h' | rfl)
      · exact h'
      · exact memB_t.mp h
  | false =>
    show x ∈ s ++ [p] ↔ _
    simp
theorem addB_nd {s : List (List Int)} {p : List Int} (hs : s.Nodup) : (addB s p).Nodup := by
  unfold addB
  cases h : memB p s with
  | true => exact hs
  | false =>
    show (s ++ [p]).Nodup
    rw [List.nodup_append]
    refine ⟨hs, by simp, fun a ha b hb z => ?_⟩
    have hb' : b = p := by simpa using hb
    subst z
    subst hb'
    exact memB_f.mp h ha
theorem foldl_congr {S α : Type} {f g : S → α → S} : ∀ {xs : List α} {s0 : S}, (∀ s x, x ∈ xs → f s x = g s x) → xs.foldl f s0 = xs.foldl g s0
  | [], _, _ => rfl
  | x :: xs, s0, h => by
    rw [List.foldl_cons, List.foldl_cons, h s0 x List.mem_cons_self]
    exact foldl_congr fun s y hy => h s y (List.mem_cons_of_mem _ hy)
theorem tr_aux (points : List Int) : ∀ (sets : List (List Int)) (s : List (List Int)), s.Nodup → let r := sets.foldl (fun s one => addB s (trc points one)) s
    r.Nodup ∧ r.length ≤ s.length + sets.length ∧ ∀ x, x ∈ r ↔ x ∈ s ∨ ∃ one ∈ sets, x = trc points one
  | [], s, h => ⟨h, Nat.le_refl _, fun x => by simp⟩
  | one :: sets, s, h => by
    obtain ⟨a, b, c⟩ := tr_aux points sets (addB s (trc points one)) (addB_nd h)
    refine ⟨a, ?_, fun x => ?_⟩
    · have := addB_len s (trc points one)
      rw [List.length_cons]
      exact Nat.le_trans b (by omega)
    · refine (c x).trans ?_
      rw [addB_mem]
      constructor
      · rintro ((h | h) | ⟨o, ho, h⟩)
        · exact .inl h
        · exact .inr ⟨one, List.mem_cons_self, h⟩
        · exact .inr ⟨o, List.mem_cons_of_mem _ ho, h⟩
      · rintro (h | ⟨o, ho, h⟩)
        · exact .inl (.inl h)
        · rcases List.mem_cons.mp ho with rfl | ho
          · exact .inl (.inr h)
          · exact .inr ⟨o, ho, h⟩
theorem tr_nd (sets : List (List Int)) (points : List Int) : (traces sets points).Nodup := (tr_aux points sets [] List.nodup_nil).1
theorem tr_len (sets : List (List Int)) (points : List Int) : (traces sets points).length ≤ sets.length := by
  have := (tr_aux points sets [] List.nodup_nil).2.1
  rw [List.length_nil, Nat.zero_add] at this
  exact this
theorem tr_mem {sets : List (List Int)} {points x : List Int} : x ∈ traces sets points ↔ ∃ one ∈ sets, x = trc points one := by
  have := (tr_aux points sets [] List.nodup_nil).2.2 x
  rw [show (x ∈ ([] : List (List Int))) = False by simp, false_or] at this
  exact this
theorem cut_len (sets : List (List Int)) (points : List Int) : (cutM sets points).length ≤ sets.length := by
  unfold cutM
  rw [sortD_len]
  exact tr_len sets points
theorem cut_mem {sets : List (List Int)} {points x : List Int} : x ∈ cutM sets points ↔ ∃ one ∈ sets, x = trc points one := by
  unfold cutM
  rw [sortD_mem, tr_mem]
theorem cut_nd (sets : List (List Int)) (points : List Int) : (cutM sets points).Nodup := (sortD_perm _).nodup_iff.mpr (tr_nd sets points)
theorem cut_nil {sets : List (List Int)} (h : sets ≠ []) : cutM sets [] = [[]] := by
  have e : ∀ x, x ∈ cutM sets [] ↔ x = [] := fun x => by
    rw [cut_mem]
    constructor
    · rintro ⟨o, _, rfl⟩; rfl
    · rintro rfl
      obtain ⟨o, r, rfl⟩ := List.exists_cons_of_ne_nil h
      exact ⟨o, List.mem_cons_self, rfl⟩
  have nd := cut_nd sets []
  match hc : cutM sets [], e, nd with
  | [], e, _ => exact absurd ((e []).mpr rfl) (by simp)
  | [x], e, _ => rw [(e x).mp (by simp)]
  | x :: y :: r, e, nd =>
    have hx := (e x).mp (by simp)
    have hy := (e y).mp (by simp)
    subst hx
    subst hy
    simp at nd
/-! ### all rising lists -/
def bitsL (n number : Int) : List Int := (rg 0 n.toNat).filter fun p => decide (Builtin.bitAnd (number / 2 ^ p.toNat) (1 : Int) = (1 : Int))
def pairsM (n : Int) : List (Int × List Int) := (rg 0 ((1 : Int) * 2 ^ n.toNat).toNat).map fun k => (((bitsL n k).length : Int), bitsL n k)
def listsM (n : Int) : List (List Int) := (sortD (pairsM n)).map fun x => x.2
theorem foldl_snoc {α β : Type} (f : α → β) : ∀ (xs : List α) (s : List β), xs.foldl (fun s x => s ++ [f x]) s = s ++ xs.map f
  | [], s => by simp
  | x :: xs, s => by
    rw [List.foldl_cons, foldl_snoc f xs, List.map_cons, List.append_assoc]
    rfl
theorem lists_mem {n : Int} {p : List Int} : p ∈ listsM n ↔ ∃ k, 0 ≤ k ∧ k < (1 : Int) * 2 ^ n.toNat ∧ p = bitsL n k := by
  unfold listsM
  rw [List.mem_map]
  constructor
  · rintro ⟨q, hq, rfl⟩
    rw [sortD_mem] at hq
    unfold pairsM at hq
    rw [List.mem_map] at hq
    obtain ⟨k, hk, rfl⟩ := hq
    have := mem_rg.mp hk
    exact ⟨k, this.1, by omega, rfl⟩
  · rintro ⟨k, h0, h1, rfl⟩
    refine ⟨(((bitsL n k).length : Int), bitsL n k), ?_, rfl⟩
    rw [sortD_mem]
    unfold pairsM
    rw [List.mem_map]
    exact ⟨k, mem_rg.mpr ⟨h0, by omega⟩, rfl⟩
theorem bits_ris {n k : Int} (h : 0 ≤ n) : Ris n (bitsL n k) := (ris_rg (by omega)).filter _
theorem lists_ris {n : Int} (h : 0 ≤ n) {p : List Int} (hp : p ∈ listsM n) : Ris n p := by
  obtain ⟨k, _, _, rfl⟩ := lists_mem.mp hp
  exact bits_ris h
theorem pow_le8 {n : Int} (h : 0 ≤ n ∧ n ≤ 8) : 1 ≤ (1 : Int) * 2 ^ n.toNat ∧ (1 : Int) * 2 ^ n.toNat ≤ 256 := by
  obtain ⟨h0, h1⟩ := h
  have : n = 0 ∨ n = 1 ∨ n = 2 ∨ n = 3 ∨ n = 4 ∨ n = 5 ∨ n = 6 ∨ n = 7 ∨ n = 8 := by omega
  rcases this with rfl | rfl | rfl | rfl | rfl | rfl | rfl | rfl | rfl <;> decide
theorem lists_len {n : Int} : (listsM n).length = ((1 : Int) * 2 ^ n.toNat).toNat := by
  unfold listsM pairsM
  rw [List.length_map, sortD_len, List.length_map, rg_len]
theorem nil_lists {n : Int} (h : 0 ≤ n ∧ n ≤ 8) : [] ∈ listsM n := by
  refine lists_mem.mpr ⟨0, by decide, by have := pow_le8 h; omega, ?_⟩
  unfold bitsL
  symm
  rw [List.filter_eq_nil_iff]
  intro p _
  rw [Int.zero_ediv]
  decide
theorem dbl_eq {n : Int} (h : 0 ≤ n ∧ n ≤ 8) : (rg 0 n.toNat).foldl (fun s p => s ++ s.map (fun x => x ++ [p])) [[]] = (rg 0 ((1 : Int) * 2 ^ n.toNat).toNat).map (bitsL n) := by
  obtain ⟨h0, h1⟩ := h
  have : n = 0 ∨ n = 1 ∨ n = 2 ∨ n = 3 ∨ n = 4 ∨ n = 5 ∨ n = 6 ∨ n = 7 ∨ n = 8 := by omega
  rcases this with rfl | rfl | rfl | rfl | rfl | rfl | rfl | rfl | rfl <;> decide +kernel
def fullB (sets : List (List Int)) (p : List Int) : Bool := decide (((cutM sets p).length : Int) = (1 : Int) * 2 ^ ((p.length : Int)).toNat)
theorem full_nil {sets : List (List Int)} (h : sets ≠ []) : fullB sets [] = true := by
  unfold fullB
  rw [cut_nil h]
  decide
theorem fmax : ∀ (ys : List Int) (m : Int), ys ≠ [] → ys.foldl max m = max m (maxL ys)
  | [], _, h => absurd rfl h
  | [y], m, _ => rfl
  | y :: z :: r, m, _ => by
    rw [List.foldl_cons, fmax (z :: r) (max m y) (by simp), maxL]
    omega
theorem run_max {α : Type} (f : α → Bool) (g : α → Int) : ∀ (xs : List α) (m : Int), xs.foldl (fun m p => cond (f p) (max m (g p)) m) m = ((xs.filter f).map g).foldl max m
  | [], m => rfl
  | x :: xs, m => by
    rw [List.foldl_cons, run_max f g xs, List.filter_cons]
    cases f x <;> rfl
theorem foldl_filter_map {α β : Type} (f : α → Bool) (g : α → β) : ∀ (xs : List α) (s : List β), xs.foldl (fun s p => cond (f p) (s ++ [g p]) s) s = s ++ (xs.filter f).map g
  | [], s => by simp
  | x :: xs, s => by
    rw [List.foldl_cons, foldl_filter_map f g xs, List.filter_cons]
    cases f x <;> simp
theorem foldl_len {S α : Type} {step : List S → α → List S} (hs : ∀ s x, (step s x).length ≤ s.length + 1) {xs : List α} {s0 : List S} {i : Nat} {s : List S} (hi : i ≤ xs.length) (h : (xs.take i).foldl step s0 = s) : s.length ≤ s0.length + i := by
  subst h
  refine foldl_take (S := List S) (fun i s => s.length ≤ s0.length + i) (Nat.le_refl _) (fun j s x hx hl => ?_) i hi
  have := hs s x
  omega
theorem cpow_of {n : Int} (h : 0 ≤ n ∧ n ≤ 1000) : CPow 1 n := ⟨h.1, by omega, by decide⟩
end Zk

namespace Zk
open PySem PySem.Spec PyProof.Rows L2 PySem.W

/-! ### the first that does -/
theorem loop_find {S α : Type} (f : α → Bool) {step : S → α → S} : ∀ {xs : List α} {s0 : S}, (loopR (fun (_ : S) p => cond (f p) (some p) none) step xs s0).1 = xs.find? f
  | [], _ => rfl
  | x :: xs, s0 => by
    show (match (cond (f x) (some x) none : Option α) with | some r => (some r, s0) | none => loopR (fun (_ : S) p => cond (f p) (some p) none) step xs (step s0 x)).1 = _
    rw [List.find?_cons]
    cases f x with
    | true => rfl
    | false => exact loop_find f
theorem loop_find' {S α : Type} {f : α → Bool} {o : S → α → Option α} {step : S → α → S} {xs : List α} {s0 : S} (h : ∀ s x, x ∈ xs → o s x = cond (f x) (some x) none) : (loopR o step xs s0).1 = xs.find? f := by
  induction xs generalizing s0 with
  | nil => rfl
  | cons x xs ih =>
    show (match o s0 x with | some r => (some r, s0) | none => loopR o step xs (step s0 x)).1 = _
    rw [h s0 x List.mem_cons_self, List.find?_cons]
    cases f x with
    | true => rfl
    | false => exact ih fun s y hy => h s y (List.mem_cons_of_mem _ hy)
theorem find_some {α : Type} {f : α → Bool} {xs : List α} {x : α} (hx : x ∈ xs) (hf : f x = true) : ∃ y, xs.find? f = some y ∧ y ∈ xs ∧ f y = true := by
  cases h : xs.find? f with
  | none => exact absurd hf (by have := List.find?_eq_none.mp h x hx; simpa using this)
  | some y => exact ⟨y, rfl, List.mem_of_find?_eq_some h, List.find?_some h⟩
theorem find_filter {α : Type} (f : α → Bool) : ∀ xs : List α, xs.find? f = (xs.filter f).head?
  | [] => rfl
  | x :: xs => by
    rw [List.find?_cons, List.filter_cons]
    cases f x with
    | true => rfl
    | false => exact find_filter f xs
theorem find_le {α : Type} (g : α → Nat) (q : α → Bool) : ∀ {xs : List α} {a b : α}, xs.Pairwise (fun x y => g x ≤ g y) → xs.find? q = some a → b ∈ xs → q b = true → g a ≤ g b
  | [], _, _, _, h, _, _ => by cases h
  | x :: xs, a, b, hp, h, hb, hq => by
    rw [List.pairwise_cons] at hp
    rw [List.find?_cons] at h
    cases e : q x with
    | true =>
      rw [e] at h
      cases h
      rcases List.mem_cons.mp hb with rfl | hb
      · exact Nat.le_refl _
      · exact hp.1 b hb
    | false =>
      rw [e] at h
      rcases List.mem_cons.mp hb with rfl | hb
      · rw [e] at hq; cases hq
      · exact find_le g q hp.2 h hb hq
theorem getL0 {α : Type} [Inhabited α] {xs : List α} {x : α} (h : xs.head? = some x) : InL xs 0 ∧ getL xs 0 = x := by
  cases xs with
  | nil => cases h
  | cons y r =>
    cases h
    exact ⟨in_nn (by decide) (by simp), by rw [getL_nn (by decide) (by simp)]; rfl⟩
theorem lists_by_len (n : Int) : (listsM n).Pairwise (fun x y => x.length ≤ y.length) := by
  unfold listsM
  rw [List.pairwise_map]
  refine (sortD_pw (pairsM n)).imp_of_mem fun {a b} ha hb h => ?_
  rw [sortD_mem] at ha hb
  unfold pairsM at ha hb
  obtain ⟨k, _, rfl⟩ := List.mem_map.mp ha
  obtain ⟨l, _, rfl⟩ := List.mem_map.mp hb
  have h : pairLe _ _ = true := h
  unfold pairLe at h
  simp only at h ⊢
  split at h
  · omega
  · have := of_decide_eq_true h
    omega
theorem full_lists {n : Int} (h : 0 ≤ n ∧ n ≤ 8) : rg 0 n.toNat ∈ listsM n := by
  refine lists_mem.mpr ⟨(1 : Int) * 2 ^ n.toNat - 1, by have := pow_le8 h; omega, by omega, ?_⟩
  obtain ⟨h0, h1⟩ := h
  have : n = 0 ∨ n = 1 ∨ n = 2 ∨ n = 3 ∨ n = 4 ∨ n = 5 ∨ n = 6 ∨ n = 7 ∨ n = 8 := by omega
  rcases this with rfl | rfl | rfl | rfl | rfl | rfl | rfl | rfl | rfl <;> decide +kernel
theorem trc_all {n : Int} {f : List Int} (h : Ris n f) : trc (rg 0 n.toNat) f = f := by
  refine ris_ext ((rg_pw 0 _).sublist List.filter_sublist) h.1 fun x => ?_
  unfold trc
  rw [List.mem_filter, memB_t, mem_rg]
  constructor
  · exact fun z => z.2
  · exact fun z => ⟨by have := h.2 x z; omega, z⟩
def tellB (sets : List (List Int)) (p : List Int) : Bool := decide (((cutM sets p).length : Int) = (sets.length : Int))
theorem tell_all {P M : Int} {F : Int × List (List Int)} (h : Fam P M F) : tellB F.2 (rg 0 F.1.toNat) = true := by
  have e : (cutM F.2 (rg 0 F.1.toNat)).Perm F.2 := (List.perm_ext_iff_of_nodup (cut_nd _ _) h.nd).mpr fun x => by
    rw [cut_mem]
    constructor
    · rintro ⟨o, ho, rfl⟩
      rw [trc_all (h.ris o ho)]
      exact ho
    · exact fun hx => ⟨x, hx, (trc_all (h.ris x hx)).symm⟩
  exact decide_eq_true (by rw [e.length_eq])
def fewM (F : Int × List (List Int)) : List Int := ((listsM F.1).find? (tellB F.2)).getD (rg 0 F.1.toNat)
theorem few_ok {P M : Int} {F : Int × List (List Int)} (h : Fam P M F) (hP : P ≤ 8) : (listsM F.1).find? (tellB F.2) = some (fewM F) ∧ fewM F ∈ listsM F.1 ∧ tellB F.2 (fewM F) = true := by
  have h1 := h.n1
  have h2 := h.n2
  obtain ⟨y, a, b, c⟩ := find_some (full_lists ⟨by omega, by omega⟩) (tell_all h)
  unfold fewM
  rw [a]
  exact ⟨rfl, b, c⟩
/-! ### one set and the others -/
def others (sets : List (List Int)) (c : Int) : List (List Int) := cutL sets none (some c) ++ cutL sets (some (c + 1)) none
def aloneB (sets : List (List Int)) (p : List Int) (c : Int) : Bool := !memB (trc p (getL sets c)) (cutM (others sets c) p)
theorem cutL_drop {α : Type} {xs : List α} {i : Int} (h0 : 0 ≤ i) : cutL xs (some i) none = xs.drop i.toNat := by
  unfold cutL HT.sIx
  simp only []
  have : ¬ i < 0 := by omega
  simp only [if_neg this]
  by_cases h : i.toNat ≤ xs.length
  · rw [Nat.min_eq_left h]
    exact List.take_of_length_le (by rw [List.length_drop]; exact Nat.le_refl _)
  · rw [Nat.min_eq_right (by omega), List.drop_eq_nil_of_le (Nat.le_refl _), List.drop_eq_nil_of_le (by omega), List.take_nil]
theorem others_eq {sets : List (List Int)} {c : Int} (h0 : 0 ≤ c) (h1 : c < sets.length) : others sets c = sets.eraseIdx c.toNat := by
  unfold others
  rw [cutL_take h0, cutL_drop (by omega), List.eraseIdx_eq_take_drop_succ]
  rw [show (c + 1).toNat = c.toNat + 1 by omega]
theorem mem_others {sets : List (List Int)} {c : Int} (h0 : 0 ≤ c) (h1 : c < sets.length) {x : List Int} : x ∈ others sets c ↔ ∃ i : Nat, i ≠ c.toNat ∧ sets[i]? = some x := by
  rw [others_eq h0 h1, List.mem_iff_getElem?]
  constructor
  · rintro ⟨j, hj⟩
    rw [List.getElem?_eraseIdx] at hj
    split at hj
    · exact ⟨j, by omega, hj⟩
    · exact ⟨j + 1, by omega, hj⟩
  · rintro ⟨i, hi, hx⟩
    by_cases h : i < c.toNat
    · exact ⟨i, by rw [List.getElem?_eraseIdx, if_pos h]; exact hx⟩
    · refine ⟨i - 1, ?_⟩
      rw [List.getElem?_eraseIdx, if_neg (by omega), show i - 1 + 1 = i by omega]
      exact hx
theorem others_len {sets : List (List Int)} {c : Int} (h0 : 0 ≤ c) (h1 : c < sets.length) : (others sets c).length = sets.length - 1 := by
  rw [others_eq h0 h1, List.length_eraseIdx, if_pos (by omega)]
theorem getL_get {sets : List (List Int)} {c : Int} (h0 : 0 ≤ c) (h1 : c < sets.length) : sets[c.toNat]? = some (getL sets c) := by
  rw [getL_nn h0 h1, List.getElem?_eq_getElem]
theorem alone_iff {sets : List (List Int)} {p : List Int} {c : Int} (h0 : 0 ≤ c) (h1 : c < sets.length) : aloneB sets p c = true ↔ ∀ (i : Nat) (x : List Int), i ≠ c.toNat → sets[i]? = some x → trc p x ≠ trc p (getL sets c) := by
  unfold aloneB
  rw [Bool.not_eq_true', memB_f, cut_mem]
  constructor
  · exact fun h i x hi hx z => h ⟨x, (mem_others h0 h1).mpr ⟨i, hi, hx⟩, z.symm⟩
  · rintro h ⟨x, hx, z⟩
    obtain ⟨i, hi, hx⟩ := (mem_others h0 h1).mp hx
    exact h i x hi hx z.symm
theorem alone_of_tell {sets : List (List Int)} {p : List Int} {c : Int} (h0 : 0 ≤ c) (h1 : c < sets.length) (h : tellB sets p = true) : aloneB sets p c = true := by
  rw [alone_iff h0 h1]
  intro i x hi hx z
  have ht : ((cutM sets p).length : Int) = (sets.length : Int) := of_decide_eq_true h
  have hm := getL_get h0 h1
  have e : (cutM sets p).Perm (cutM (others sets c) p) := (List.perm_ext_iff_of_nodup (cut_nd _ _) (cut_nd _ _)).mpr fun y => by
    rw [cut_mem, cut_mem]
    constructor
    · rintro ⟨o, ho, rfl⟩
      obtain ⟨j, hj⟩ := List.getElem?_of_mem ho
      by_cases hjc : j = c.toNat
      · subst hjc
        rw [hm] at hj
        cases hj
        exact ⟨x, (mem_others h0 h1).mpr ⟨i, hi, hx⟩, z.symm⟩
      · exact ⟨o, (mem_others h0 h1).mpr ⟨j, hjc, hj⟩, rfl⟩
    · rintro ⟨o, ho, rfl⟩
      obtain ⟨j, _, hj⟩ := (mem_others h0 h1).mp ho
      exact ⟨o, List.mem_of_getElem? hj, rfl⟩
  have l1 := e.length_eq
  have l2 := cut_len (others sets c) p
  rw [others_len h0 h1] at l2
  omega
def lesM (F : Int × List (List Int)) (c : Int) : List Int := ((listsM F.1).find? fun p => aloneB F.2 p c).getD (rg 0 F.1.toNat)
theorem les_ok {P M : Int} {F : Int × List (List Int)} (h : Fam P M F) (hP : P ≤ 8) {c : Int} (h0 : 0 ≤ c) (h1 : c < F.2.length) : (listsM F.1).find? (fun p => aloneB F.2 p c) = some (lesM F c) ∧ lesM F c ∈ listsM F.1 ∧ aloneB F.2 (lesM F c) c = true := by
  have n1 := h.n1
  have n2 := h.n2
  obtain ⟨y, a, b, c⟩ := find_some (f := fun p => aloneB F.2 p c) (full_lists ⟨by omega, by omega⟩) (alone_of_tell h0 h1 (tell_all h))
  unfold lesM
  rw [a]
  exact ⟨rfl, b, c⟩
theorem les_le_few {P M : Int} {F : Int × List (List Int)} (h : Fam P M F) (hP : P ≤ 8) {c : Int} (h0 : 0 ≤ c) (h1 : c < F.2.length) : (lesM F c).length ≤ (fewM F).length := by
  obtain ⟨_, a, b⟩ := few_ok h hP
  exact find_le (fun x : List Int => x.length) (fun p => aloneB F.2 p c) (lists_by_len F.1) (les_ok h hP h0 h1).1 a (alone_of_tell h0 h1 b)
def hardM (F : Int × List (List Int)) : Int := maxL ((rg 0 ((F.2.length : Int)).toNat).map fun c => ((lesM F c).length : Int))
theorem hard_le_few {P M : Int} {F : Int × List (List Int)} (h : Fam P M F) (hP : P ≤ 8) : hardM F ≤ ((fewM F).length : Int) := by
  have hl := List.length_pos_iff.mpr h.ne
  have ne : (rg 0 ((F.2.length : Int)).toNat).map (fun c => ((lesM F c).length : Int)) ≠ [] := by
    intro z
    have := congrArg List.length z
    rw [List.length_map, rg_len, List.length_nil] at this
    omega
  obtain ⟨c, hc, e⟩ := List.mem_map.mp (maxL_mem ne)
  have := mem_rg.mp hc
  have := les_le_few h hP (c := c) (by omega) (by omega)
  unfold hardM
  omega
theorem loopR_cons {S α β : Type} (o : S → α → Option β) (step : S → α → S) (x : α) (xs : List α) (s : S) : loopR o step (x :: xs) s = (match o s x with | some r => (some r, s) | none => loopR o step xs (step s x)) := rfl
theorem foldl_mapmax {α : Type} (g : α → Int) : ∀ (xs : List α) (m : Int), xs.foldl (fun m p => max m (g p)) m = (xs.map g).foldl max m
  | [], m => rfl
  | x :: xs, m => by
    rw [List.foldl_cons, foldl_mapmax g xs, List.map_cons, List.foldl_cons]
end Zk

namespace Zk
open PySem PySem.Spec PyProof.Rows L2

/-! ### a dict from tuples of tuples of ints to ints -/
def keyN (S : List (List Int)) : NestedKey := .tup (S.map fun f => .tup (f.map .num))
def keyD (S : List (List Int)) : PyData := Py.enc (VT.mk (S.map VT.mk))
theorem keyN_inj {S T : List (List Int)} (h : keyN S = keyN T) : S = T := by
  have inj1 : ∀ {f g : List Int}, f.map NestedKey.num = g.map NestedKey.num → f = g := fun {f g} h => by
    have := congrArg (List.map fun k => match k with | NestedKey.num i => i | _ => 0) h
    simpa [List.map_map, Function.comp_def] using this
  unfold keyN at h
  injection h with h
  have h2 := congrArg (List.map fun k => match k with | NestedKey.tup ks => ks.map (fun k => match k with | NestedKey.num i => i | _ => 0) | _ => []) h
  simpa [List.map_map, Function.comp_def] using h2
theorem keyN_depth (S : List (List Int)) : (keyN S).depth ≤ 8 := by
  have d1 : ∀ f : List Int, NestedKey.depthAll (f.map .num) = 0 := fun f => by
    induction f with
    | nil => rfl
    | cons x f ih => rw [List.map_cons, NestedKey.depthAll, ih]; rfl
  have d2 : ∀ S : List (List Int), NestedKey.depthAll (S.map fun f => .tup (f.map .num)) ≤ 1 := fun S => by
    induction S with
    | nil => exact Nat.zero_le _
    | cons f S ih => rw [List.map_cons, NestedKey.depthAll, NestedKey.depth, d1]; omega
  unfold keyN
  rw [NestedKey.depth]
  have := d2 S
  omega
section
variable {P : Program} {w : World} {H : Hp} {h : Heap}
theorem nest1 (ok : HOk P w H h) : ∀ {f : List Int} {vs : List V} {us : List Value}, DqAll H vs (f.map Py.enc) → Vals vs us → NestedAll h (f.map .num) us
  | [], _, _, d, r => by
    cases d
    cases r
    exact .nil
  | x :: f, _, _, d, r => by
    cases d with
    | cons d1 d2 =>
      cases r with
      | cons r1 r2 =>
        have e := dp_int d1
        subst e
        obtain ⟨t, rfl⟩ := r1
        exact .cons (.int x t) (nest1 ok d2 r2)
theorem nest_tup (ok : HOk P w H h) {v : V} {u : Value} {ds : List PyData} {ks : List NestedKey} (d : Dq H v (.tuple ds)) (r : RelV v u) (f : ∀ vs us, DqAll H vs ds → Vals vs us → NestedAll h ks us) : NestedIs h (.tup ks) u := by
  obtain ⟨a, vs, rfl, hR, hz, hall⟩ := dp_tup d
  cases (show u = Value.ref a from r)
  obtain ⟨_, its, rv, o, h1, h2, n, h3⟩ := (show ObjOk P w H h a (.tup vs) from hR.ok ok)
  exact .tup h1 h2 h3 (by simpa using f vs its hall rv)
theorem nest2 (ok : HOk P w H h) : ∀ {S : List (List Int)} {vs : List V} {us : List Value}, DqAll H vs ((S.map VT.mk).map Py.enc) → Vals vs us → NestedAll h (S.map fun f => .tup (f.map .num)) us
  | [], _, _, d, r => by
    cases d
    cases r
    exact .nil
  | f :: S, _, _, d, r => by
    cases d with
    | cons d1 d2 =>
      cases r with
      | cons r1 r2 => exact .cons (nest_tup ok (ds := f.map Py.enc) d1 r1 fun vs us => nest1 ok) (nest2 ok d2 r2)
theorem nested_of (ok : HOk P w H h) {v : V} {u : Value} {S : List (List Int)} (d : Dq H v (keyD S)) (r : RelV v u) : NestedIs h (keyN S) u :=
  nest_tup ok (ds := (S.map VT.mk).map Py.enc) d r fun vs us => nest2 ok
end
abbrev Mx : Type := List (NestedKey × Addr × Value)
def memF (P : Program) (w : World) (d : Addr) (xs : Mx) : Heap → Prop := fun h => ∃ o es ep, h.get? d = some o ∧ o.ExactDict ∧ o.data = .dict es ep ∧ es.toList = xs.map (entryOfKey (nestedKind P w))
structure MemO (P : Program) (w : World) (Hd H : Hp) (d : Addr) (xs : Mx) : Prop where
  at_ : H d = some (.ext (memF P w d xs))
  ns : (d == sysModules) = false
  nd : (xs.map (·.1)).Nodup
  ky : ∀ x ∈ xs, ∃ S, x.1 = keyN S ∧ Dq Hd (.ref x.2.1) (keyD S)
theorem memF_stay {P : Program} {w : World} {d : Addr} {xs : Mx} (h1 h2 : Heap) (m : memF P w d xs h1) (k : ∀ o, h1.get? d = some o → h2.get? d = some o) : memF P w d xs h2 := by
  obtain ⟨o, es, ep, a, b, c, e⟩ := m
  exact ⟨o, es, ep, k o a, b, c, e⟩
theorem memF_ok {P : Program} {w : World} {d : Addr} {xs : Mx} {H : Hp} {h : Heap} (m : memF P w d xs h) : ObjOk P w H h d (.ext (memF P w d xs)) := ⟨m, (let ⟨o, _, _, a, _⟩ := m; ⟨o, a⟩), memF_stay⟩
section
variable {X : Cx} {pins : List (Addr × Obj)} {σ : L2.St} {H Hd : Hp} {s : Shared} {d : Addr} {xs : Mx} {S : List (List Int)} {A : Around} {E : Value → Shared → Prop} {y : V} {u : Value}
theorem MemO.dict (m : MemO X.prog X.w Hd H d xs) (e : Ex Hd H) (I : Inv X pins σ H s) : s.heap.DictOfH (nestedKind X.prog X.w) d xs := by
  obtain ⟨⟨o, es, ep, a, b, c, f⟩, _⟩ := (show ObjOk X.prog X.w H s.heap d (.ext (memF X.prog X.w d xs)) from I.hok _ _ m.at_)
  refine ⟨o, es, ep, a, b, c, f, fun x hx => ?_, m.nd⟩
  obtain ⟨S, hS, dS⟩ := m.ky x hx
  rw [hS]
  exact ⟨nested_of I.hok (dq_mo e _ _ dS) rfl, keyN_depth S⟩
theorem key_at (I : Inv X pins σ H s) (dy : Dq H y (keyD S)) (ry : RelV y u) : ∃ b, u = .ref b ∧ y = .ref b ∧ (nestedKind X.prog X.w).is s.heap (keyN S) b := by
  obtain ⟨a, vs, rfl, hR, hz, hall⟩ := dp_tup (ds := (S.map VT.mk).map Py.enc) dy
  cases (show u = Value.ref a from ry)
  exact ⟨a, rfl, rfl, nested_of I.hok dy rfl, keyN_depth S⟩
theorem nk_room {P : Program} {w : World} {A : Around} (hu : A.units + 65 < cLine) : (nestedKind P w).room A.in1 := show A.units + 1 + 8 < cLine by omega
variable {o i e value : Expr} {pos pos' tpos : Pos} {td ty tv : TE}
def tMGet (P : Program) (w : World) (td ty : TE) : TE := fun σ H Q => td σ H fun x H1 => ty σ H1 fun y H2 => ∃ d xs Hd S b i t, x = .ref d ∧ MemO P w Hd H2 d xs ∧ Ex Hd H2 ∧ Dq H2 y (keyD S) ∧ atKey xs (keyN S) = some (b, .int i t) ∧ Q (.int i) H2
def tMNotIn (P : Program) (w : World) (ty td : TE) : TE := fun σ H Q => ty σ H fun y H1 => td σ H1 fun x H2 => ∃ d xs Hd S, x = .ref d ∧ MemO P w Hd H2 d xs ∧ Ex Hd H2 ∧ Dq H2 y (keyD S) ∧ Q (.bl (!(atKey xs (keyN S)).isSome)) H2
def sMPut (P : Program) (w : World) (td ty tv : TE) : TS := fun D σ H => tv σ H fun v H1 => td σ H1 fun x H2 => ty σ H2 fun y H3 => ∃ d xs Hd S b i, x = .ref d ∧ MemO P w Hd H3 d xs ∧ Ex Hd H3 ∧ y = .ref b ∧ Dq H3 y (keyD S) ∧ v = .int i ∧ xs.length ≤ 1000000 ∧ ∀ t, D.nx σ (upd H3 d (.ext (memF P w d (storedH xs (keyN S) b (.int i t)))))
theorem pe_mget (hu : X.A.units + 65 < cLine) (ho : PE X o td) (hi : PE X i ty) (hs : NoSl i) : PE X (.Subscript o i pos) (tMGet X.prog X.w td ty) := by
  refine ⟨fun pins s σ H Q I h => ?_⟩
  refine subD_of PySem.F.slot_dict_getitem.lookup hs (thn (ho.run pins s σ H _ I h) fun u s1 ⟨x, H1, I1, rx, q1⟩ => thn (hi.run pins s1 σ H1 _ I1 q1) fun iv s2 ⟨y, H2, I2, ry, d, xs, Hd, S, b, i, t, ex, m, eH, dy, hp, q2⟩ => ?_)
  subst ex
  obtain rfl : u = Value.ref d := rx
  obtain ⟨b', rfl, _, hk⟩ := key_at I2 dy ry
  have dd := m.dict eH I2
  exact ⟨dd.typeIs, wpAny_getItem_heap (nk_room hu) hk dd hp ⟨.int i, H2, I2.tok _, ⟨t, rfl⟩, q2⟩⟩
theorem pc_mnotin (hu : X.A.units + 65 < cLine) (hi : PE X i ty) (ho : PE X o td) : PC X .NotIn i o (tMNotIn X.prog X.w ty td) := by
  refine ⟨fun pins s σ H Q I h => ?_⟩
  refine thn (hi.run pins s σ H _ I h) fun iv s1 ⟨y, H1, I1, ry, q1⟩ => thn (ho.run pins s1 σ H1 _ I1 q1) fun u s2 ⟨x, H2, I2, rx, d, xs, Hd, S, ex, m, eH, dy, q2⟩ => ?_
  subst ex
  obtain rfl : u = Value.ref d := rx
  obtain ⟨b', rfl, _, hk⟩ := key_at I2 (dq_mo (Ex.rf _) _ _ dy) (show RelV y iv from ry)
  exact wpAny_notIn_heap (nk_room hu) hk m.ns (m.dict eH I2) ⟨.bl _, H2, I2.tok _, rfl, q2⟩
theorem ps_mput (hu : X.A.units + 65 < cLine) (ho : PE X o td) (hi : PE X i ty) (hv : PE X value tv) (hs : swapsWith value (some (.Subscript o i pos')) pos.line X.env = pure false) :
    PS X (.Assign [.Subscript o i pos'] value pos) (sMPut X.prog X.w td ty tv) := by
  refine ⟨fun pins s σ H D I h => ?_⟩
  refine wpAny_Assign_Subscript (thn (hv.run pins s σ H _ I h) fun r s1 ⟨v, H1, I1, rv, q1⟩ => thn (ho.run pins s1 σ H1 _ I1 q1) fun u s2 ⟨x, H2, I2, rx, q2⟩ => thn (hi.run pins s2 σ H2 _ I2 q2) fun iv s3 ⟨y, H3, I3, ry, d, xs, Hd, S, b, i, ex, m, eH, ey, dy, ev, hz, q3⟩ => ?_) hs
  subst ex
  obtain rfl : u = Value.ref d := rx
  subst ev
  obtain ⟨t, rfl⟩ := rv
  obtain ⟨b', rfl, ey', hk⟩ := key_at I3 dy ry
  rw [ey] at ey'
  cases ey'
  refine wpAny_setItem_heap (hsz := Nat.le_trans hz (by decide)) (nk_room hu) hk (m.dict eH I3) fun h' dd' hs' => ⟨σ, _, ?_, q3 t⟩
  obtain ⟨q, es, ep, hq, h2, h3, h4, _, h5⟩ := dd'
  exact d_write I3 (by rw [m.at_]; exact True.intro) hs' ⟨q, hq⟩ (memF_ok ⟨q, es, ep, hq, h2, h3, h4⟩)
def tMNew (P : Program) (w : World) : TE := fun _ H Q => ∀ p, H p = none → (p == sysModules) = false → Q (.ref p) (upd H p (.ext (memF P w p [])))
theorem pe_mnew : PE X (.Dict [] [] pos) (tMNew X.prog X.w) := ⟨fun pins s σ H Q I h =>
  wpAny_Dict_empty ⟨.ref s.heap.objs.size, _, I.laid (a := s.heap.objs.size) (o := .ext (memF X.prog X.w s.heap.objs.size [])) (t' := s.toks) (fun _ _ q => Heap.get?_push_of_some _ q) (Nat.le_refl _)
    (memF_ok ⟨_, #[], 0, Heap.get?_push_size _ rfl, ⟨rfl, rfl, rfl⟩, rfl, rfl⟩), rfl, h _ (I.hok.fresh (Nat.le_refl _)) (beq_eq_false_iff_ne.mpr (Ne.symm (Nat.ne_of_lt I.big)))⟩⟩
end
end Zk

namespace Zk
open PySem PySem.Spec PyProof.Rows L2

/-! ### all sublists -/
def subsL {α : Type} : List α → List (List α)
  | [] => [[]]
  | a :: l => subsL l ++ (subsL l).map (a :: ·)
theorem subsL_len {α : Type} : ∀ l : List α, (subsL l).length = 2 ^ l.length
  | [] => rfl
  | a :: l => by
    unfold subsL
    rw [List.length_append, List.length_map, subsL_len l, List.length_cons, Nat.pow_succ]
    omega
theorem mem_subsL {α : Type} {l S : List α} (h : S.Sublist l) : S ∈ subsL l := by
  induction h with
  | slnil => exact List.mem_singleton.mpr rfl
  | cons a _ ih => exact List.mem_append.mpr (.inl ih)
  | cons_cons a _ ih => exact List.mem_append.mpr (.inr (List.mem_map.mpr ⟨_, ih, rfl⟩))
/-! ### the memo as a thing of one's own: what it holds is right -/
structure MemI (P : Program) (w : World) (g : List (List Int) → Int) (S0 : List (List Int)) (hv : List (List (List Int))) (F H : Hp) (v : V) (A : Addr → Prop) : Prop where
  ex : ∃ d xs, v = .ref d ∧ (∀ l, A l ↔ l = d) ∧ MemO P w F H d xs ∧ (∀ x ∈ xs, ∃ S b t, x = (keyN S, b, .int (g S) t) ∧ S.Sublist S0) ∧ (∀ S ∈ hv, ∃ p, atKey xs (keyN S) = some p) ∧ S0.length ≤ 16
/-- which memo: for what it stands, what its keys are parts of, which object it is (if that is to be known) -/
structure Mm where
  g : List (List Int) → Int
  S0 : List (List Int)
  o : Option V
def memoR (P : Program) (w : World) (mm : Mm) (hv : List (List (List Int))) : Res where
  R := fun _ _ F H v A => (∀ v0, mm.o = some v0 → v = v0) ∧ MemI P w mm.g mm.S0 hv F H v A
  mo := fun ⟨hid, d, xs, e, hA, m, hx, hh, hz⟩ g' hH => ⟨hid, d, xs, e, hA, ⟨hH _ _ ((hA d).mpr rfl) m.at_, m.ns, m.nd, fun x hx => by
    obtain ⟨S, a, c⟩ := m.ky x hx
    exact ⟨S, a, dq_mo g' _ _ c⟩⟩, hx, hh, hz⟩
theorem memo_len {P : Program} {w : World} {F H : Hp} {d : Addr} {xs : Mx} {g : List (List Int) → Int} {S0 : List (List Int)} (m : MemO P w F H d xs) (hx : ∀ x ∈ xs, ∃ S b t, x = (keyN S, b, .int (g S) t) ∧ S.Sublist S0) (hz : S0.length ≤ 16) : xs.length ≤ 65536 := by
  have h1 : (xs.map (·.1)).length ≤ ((subsL S0).map keyN).length := m.nd.length_le_of_subset fun k hk => by
    obtain ⟨x, hxm, rfl⟩ := List.mem_map.mp hk
    obtain ⟨S, b, t, rfl, hS⟩ := hx x hxm
    exact List.mem_map.mpr ⟨S, mem_subsL hS, rfl⟩
  rw [List.length_map, List.length_map, subsL_len] at h1
  have h2 : 2 ^ S0.length ≤ 2 ^ 16 := Nat.pow_le_pow_right (by decide) hz
  have h3 : (2 : Nat) ^ 16 = 65536 := by decide
  omega
theorem atKey_mem {xs : Mx} {k : NestedKey} {p : Addr × Value} (h : atKey xs k = some p) : (k, p.1, p.2) ∈ xs := by
  unfold atKey at h
  rw [Option.map_eq_some_iff] at h
  obtain ⟨x, hf, rfl⟩ := h
  have h1 := List.mem_of_find?_eq_some hf
  have h2 : decide (x.1 = k) = true := List.find?_some (p := fun (x : NestedKey × Addr × Value) => decide (x.1 = k)) hf
  have h2 := of_decide_eq_true h2
  rw [← h2]
  exact h1
theorem atKey_some {xs : Mx} {k : NestedKey} {p : Addr × Value} (hn : (xs.map (·.1)).Nodup) (h : (k, p) ∈ xs) : atKey xs k = some p := by
  obtain ⟨i, hi⟩ := List.getElem?_of_mem h
  exact atKey_of_get hn hi
section
variable {X : Cx} {b : Bs} {t : Tx} {k : Nat} {N : List Str} {sc scope : Scope} {mg : Str → Option Value} {W : Str → Bool} {Γ Γ1 Γ2 Γ3 : List En} {kk rl : Bool} {lv la lb lc : Lv} {pos pos' pp cpos xp tpos : Pos} {e e1 e2 e3 : Expr} {rest body els : List Stmt}
variable {α β γ : Type} [ia : Py α] [ib : Py β] [ic : Py γ] {mm : Mm} {S : List (List Int)} {hv : List (List (List Int))} {j : Nat} {x : Str}
theorem sel2_ex {b : Bs} {F H : Hp} (fr : Frz b F H) : Ex (sel2 b.B F kk) F := sel2_le kk
/-- if key not in known: body -/
theorem xs_ifMemo (cf : Cf X N sc mg W) (a : At X t k) (hN : N[j]? = some x) (hvs : Vis sc x) (hΓ : Γ[j]? = some (.res (memoR t.P t.w mm hv))) (hk : XE X b e1 Γ (.st kk) (VT.mk (S.map VT.mk))) (hb : XB X b rl body Γ (none : Option γ) Γ1) (w1 : Wk Γ1 Γ2) (w2 : Wk (Γ.set j (.res (memoR t.P t.w mm [S]))) Γ2)
    (hd : (x == ("__debug__" : Str)) = false := by decide) (hcd : (x == ("__classdict__" : Str)) = false := by decide) (hm : behindInMarks .NotIn (.Name x xp) = false := by rfl) :
    XS X b rl (.If (.Compare e1 [.NotIn] [.Name x xp] cpos) body [] pos) Γ (none : Option γ) Γ2 := by
  refine PS.wk (ps_if (pt_cmp (pc_mnotin cf.un hk (pe_var (i := j) (by rw [cf.hN]; exact hN) (by rw [cf.hs]; exact hvs) hd hcd)) hm) hb (u := tNext) pss_nil) fun D σ H ⟨F, ok, kq⟩ => ⟨F, ok, fun v F1 H1 g1 d1 => ?_⟩
  have ok1 := ok.gr g1
  obtain ⟨fp, oa⟩ := ok1.get
  obtain ⟨o, ho, v0, rfl, hid, d, xs, rfl, hA, m, hx, hh, hz⟩ := oa.sl j _ hΓ
  refine ⟨_, ho, d, xs, F1, S, rfl, by rw [a.hP, a.hw]; exact m, ok1.fr.h, dq_mo ((sel2_le kk).tr ok1.fr.h) _ _ d1, ?_⟩
  refine ⟨_, rfl, ?_⟩
  cases hq : atKey xs (keyN S) with
  | none =>
    refine iteT ⟨F1, ok1, fun σ' F' H' e' ok' => kq σ' F' H' (g1.f.tr e') (w1 _ _ _ _ _ ok')⟩
  | some p =>
    refine iteF (kq σ F1 H1 g1.f (w2 _ _ _ _ _ ?_))
    exact (oa.re hΓ fun v hv' hr => by
      rw [ho] at hv'
      cases hv'
      exact ⟨hid, d, xs, rfl, hA, m, hx, fun T hT => by
        have : T = S := by simpa using hT
        subst this
        exact ⟨p, hq⟩, hz⟩).ok
/-- known[key], there -/
theorem xe_memGet (cf : Cf X N sc mg W) (a : At X t k) (hN : N[j]? = some x) (hvs : Vis sc x) (hΓ : Γ[j]? = some (.res (memoR t.P t.w mm hv))) (hS : S ∈ hv) (hk : XE X b e1 Γ (.st kk) (VT.mk (S.map VT.mk))) (hs : NoSl e1)
    (hd : (x == ("__debug__" : Str)) = false := by decide) (hcd : (x == ("__classdict__" : Str)) = false := by decide) : XE X b (.Subscript (.Name x xp) e1 pos) Γ lv (mm.g S) := by
  refine PE.wk (pe_mget cf.un (pe_var (i := j) (by rw [cf.hN]; exact hN) (by rw [cf.hs]; exact hvs) hd hcd) hk hs) fun σ H Q ⟨F, ok, kq⟩ => ?_
  obtain ⟨fp0, oa0⟩ := ok.get
  obtain ⟨o0, ho0, v0, rfl, hid0, d0, xs0, rfl, _, _, _, _, _⟩ := oa0.sl j _ hΓ
  refine ⟨_, ho0, F, ok, fun v F1 H1 g1 d1 => ?_⟩
  have ok1 := ok.gr g1
  obtain ⟨fp, oa⟩ := ok1.get
  obtain ⟨o, ho, v0, rfl, hid, d, xs, rfl, hA, m, hx, hh, hz⟩ := oa.sl j _ hΓ
  rw [ho0] at ho
  cases ho
  obtain ⟨p, hp⟩ := hh S hS
  obtain ⟨T, b', t', hxe, _⟩ := hx _ (atKey_mem hp)
  injection hxe with h1 h2
  injection h2 with h2 h3
  have hT := keyN_inj h1
  subst hT
  refine ⟨d0, xs, F1, S, p.1, mm.g S, t', rfl, by rw [a.hP, a.hw]; exact m, ok1.fr.h, dq_mo ((sel2_le kk).tr ok1.fr.h) _ _ d1, ?_, kq _ F1 H1 g1 (.int _)⟩
  rw [hp, ← h3]
/-- known[key] = e -/
theorem xs_memPut {i : Int} (cf : Cf X N sc mg W) (a : At X t k) (hN : N[j]? = some x) (hvs : Vis sc x) (hΓ : Γ[j]? = some (.res (memoR t.P t.w mm hv))) (hk : XE X b e1 Γ (.st kk) (VT.mk (S.map VT.mk))) (hval : XE X b e Γ lv i) (hi : i = mm.g S) (hS : S.Sublist mm.S0)
    (hsw : swapsWith e (some (.Subscript (.Name x xp) e1 pos')) pos.line X.env = pure false := by rfl) (hd : (x == ("__debug__" : Str)) = false := by decide) (hcd : (x == ("__classdict__" : Str)) = false := by decide) :
    XS X b rl (.Assign [.Subscript (.Name x xp) e1 pos'] e pos) Γ (none : Option γ) (Γ.set j (.res (memoR t.P t.w mm [S]))) := by
  refine PS.wk (ps_mput cf.un (pe_var (i := j) (by rw [cf.hN]; exact hN) (by rw [cf.hs]; exact hvs) hd hcd) hk hval hsw) fun D σ H ⟨F, ok, kq⟩ => ⟨F, ok, fun v F1 H1 g1 d1 => ?_⟩
  have ev := dp_int d1
  subst ev
  have ok1 := ok.gr g1
  obtain ⟨fp0, oa0⟩ := ok1.get
  obtain ⟨o0, ho0, v0, rfl, hid0, d0, xs0, rfl, _, _, _, _, _⟩ := oa0.sl j _ hΓ
  refine ⟨_, ho0, F1, ok1, fun y F2 H2 g2 dy => ?_⟩
  have ok2 := ok1.gr g2
  obtain ⟨fp, oa⟩ := ok2.get
  obtain ⟨o, ho, v0, rfl, hid, d, xs, rfl, hA, m, hx, hh, hz⟩ := oa.sl j _ hΓ
  rw [ho0] at ho
  cases ho
  have hln := memo_len m hx hz
  have dyF : Dq F2 y (keyD S) := dq_mo (sel2_le kk) _ _ dy
  obtain ⟨bb, vs, hyb, _⟩ := dp_tup (ds := (S.map VT.mk).map Py.enc) dyF
  refine ⟨d0, xs, F2, S, bb, i, rfl, by rw [a.hP, a.hw]; exact m, ok2.fr.h, hyb, dq_mo ok2.fr.h _ _ dyF, rfl, by omega, fun tk => ?_⟩
  subst hi
  subst hyb
  have hAd := (hA d0).mpr rfl
  refine kq σ F2 _ (g1.f.tr g2.f) (oa.mut hΓ (fun l hl => upd_ne fun z => hl (z ▸ hAd)) (fun l hl => by rw [(hA l).mp hl, upd_same]; exact fun z => by cases z) fun v hv' => ?_).ok
  rw [ho0] at hv'
  cases hv'
  have hmem : ∀ y ∈ storedH xs (keyN S) bb (.int (mm.g S) tk), ∃ T b t, y = (keyN T, b, .int (mm.g T) t) ∧ T.Sublist mm.S0 ∧ Dq F2 (.ref b) (keyD T) := fun y hy => by
    have old : ∀ y ∈ xs, ∃ T b t, y = (keyN T, b, .int (mm.g T) t) ∧ T.Sublist mm.S0 ∧ Dq F2 (.ref b) (keyD T) := fun y hy => by
      obtain ⟨T, b, t, rfl, hT⟩ := hx y hy
      obtain ⟨T', e1, e2⟩ := m.ky _ hy
      have := keyN_inj e1
      subst this
      exact ⟨T, b, t, rfl, hT, e2⟩
    unfold storedH at hy
    split at hy
    · obtain ⟨z, hz', rfl⟩ := List.mem_map.mp hy
      unfold putAt
      split
      · rename_i hk'
        obtain ⟨T, b, t, rfl, hT, dT⟩ := old z hz'
        have hk'' := of_decide_eq_true (p := (keyN T = keyN S)) (by simpa using hk')
        have := keyN_inj hk''
        subst this
        exact ⟨T, b, tk, rfl, hT, dT⟩
      · exact old z hz'
    · rcases List.mem_append.mp hy with hy | hy
      · exact old y hy
      · have : y = (keyN S, bb, .int (mm.g S) tk) := by simpa using hy
        subst this
        exact ⟨S, bb, tk, rfl, hS, dyF⟩
  have hnd : ((storedH xs (keyN S) bb (.int (mm.g S) tk)).map (·.1)).Nodup := by
    unfold storedH
    split
    · have e : (xs.map (putAt (keyN S) (.int (mm.g S) tk))).map (·.1) = xs.map (·.1) := by
        rw [List.map_map]
        refine List.map_congr_left fun z _ => ?_
        show (putAt (keyN S) (.int (mm.g S) tk) z).1 = z.1
        unfold putAt
        split <;> rfl
      rw [e]
      exact m.nd
    · rename_i hno
      rw [List.map_append, List.nodup_append]
      refine ⟨m.nd, by simp, fun c hc c' hc' z => hno ?_⟩
      have hc' : c' = keyN S := by simpa using hc'
      subst hc'
      subst z
      obtain ⟨y, hy, e⟩ := List.mem_map.mp hc
      obtain ⟨y1, y2⟩ := y
      have e : y1 = keyN S := e
      subst e
      rw [atKey_some m.nd hy]
      rfl
  have hat : ∃ p, atKey (storedH xs (keyN S) bb (.int (mm.g S) tk)) (keyN S) = some p := by
    by_cases hs : (atKey xs (keyN S)).isSome = true
    · obtain ⟨p, hp⟩ := Option.isSome_iff_exists.mp hs
      refine ⟨_, atKey_some (p := (p.1, .int (mm.g S) tk)) hnd ?_⟩
      rw [storedH_old hp]
      refine List.mem_map.mpr ⟨_, atKey_mem hp, ?_⟩
      unfold putAt
      rw [if_pos (by simp)]
    · have hn : atKey xs (keyN S) = none := by
        cases q : atKey xs (keyN S) with
        | none => rfl
        | some p => rw [q] at hs; exact absurd rfl hs
      exact ⟨_, atKey_some (p := (bb, .int (mm.g S) tk)) hnd (by rw [storedH_new hn]; exact List.mem_append.mpr (.inr (List.mem_singleton.mpr rfl)))⟩
  refine ⟨hid, d0, _, rfl, hA, ⟨by rw [← a.hP, ← a.hw]; exact upd_same, m.ns, hnd, fun y hy => ?_⟩, fun y hy => ?_, fun T hT => ?_, hz⟩
  · obtain ⟨T, b, t, rfl, _, dT⟩ := hmem y hy
    exact ⟨T, rfl, dT⟩
  · obtain ⟨T, b, t, rfl, hT, _⟩ := hmem y hy
    exact ⟨T, b, t, rfl, hT⟩
  · have : T = S := by simpa using hT
    subst this
    exact hat
theorem Wk.memo {P : Program} {w : World} (hj : Γ1[j]? = some (.res (memoR P w mm hv))) (wk : Wk (Γ1.set j (.res (memoR P w mm []))) Γ2) : Wk Γ1 Γ2 := fun K b F H σ ok => by
  obtain ⟨fp, oa⟩ := ok.get
  exact wk _ _ _ _ _ (oa.re (r' := memoR P w mm []) hj fun v hv' hr => by
    obtain ⟨hid, d, xs, e, hA, m, hx, _, hz⟩ := hr
    exact ⟨hid, d, xs, e, hA, m, hx, fun S hS => absurd hS List.not_mem_nil, hz⟩).ok
end
end Zk

namespace Zk
open PySem PySem.Spec PyProof.Rows L2

/-! ### expressions that change things of one's own (a memo), and keep the environment -/
def tM (K : PySem.W.Frag) (b : Bs) (Γ : List En) (k : Bool) (d : PyData) : TE := fun σ H Q => ∃ F, EnvOk K b F H σ Γ ∧ ∀ v F' H', Ex F F' → EnvOk K b F' H' σ Γ → Dq (sel2 b.B F' k) v d → Q v H'
abbrev XM (X : Cx) (b : Bs) (e : Expr) (Γ : List En) (k : Bool) {α : Type} [Py α] (a : α) : Prop := PE X e (tM X.K b Γ k (Py.enc a))
def stL (ds : List (Bool × PyData)) : List (Lv × PyData) := ds.map fun p => (Lv.st p.1, p.2)
theorem DqL.stm {b : Bs} {F H F' H' : Hp} (e : Ex F F') : ∀ {ds : List (Bool × PyData)} {vs : List V}, DqL b F H vs (stL ds) → DqL b F' H' vs (stL ds)
  | [], _, h => by cases h; exact .nil
  | (k, d) :: ds, _, h => by
    cases h with
    | cons a r => exact .cons (dq_mo (sel2_mo e k) _ _ a) (DqL.stm e r)
def tMA (K : PySem.W.Frag) (b : Bs) (Γ : List En) (ds : List (Bool × PyData)) : TA := fun σ H Q => ∃ F, EnvOk K b F H σ Γ ∧ ∀ vs F' H', Ex F F' → EnvOk K b F' H' σ Γ → DqL b F' H' vs (stL ds) → Q vs H'
abbrev XMA (X : Cx) (b : Bs) (es : List Expr) (Γ : List En) (ds : List (Bool × PyData)) : Prop := PA X es (tMA X.K b Γ ds)
section
variable {X : Cx} {b : Bs} {N : List Str} {sc scope : Scope} {mg : Str → Option Value} {W : Str → Bool} {Γ Γ' Γ1 Γ2 : List En} {k k' rl : Bool} {lv la lb lc : Lv} {pos pos' pp py tpos : Pos} {e e1 e2 e3 t tg : Expr} {es : List Expr} {rest body els : List Stmt}
variable {α β γ δ : Type} [ia : Py α] [ib : Py β] [ic : Py γ] [id' : Py δ] {p : α} {q : β}
theorem xm_xe (h : XE X b e Γ (.st k) p) : XM X b e Γ k p := PE.wk h fun σ H Q ⟨F, ok, kk⟩ => ⟨F, ok, fun v F' H' g d => kk v F' H' g.f (ok.gr g) d⟩
theorem xm_sc [Scal α] (h : XM X b e Γ k p) : XM X b e Γ k' p := PE.wk h fun σ H Q ⟨F, ok, kk⟩ => ⟨F, ok, fun v F' H' g ok' d => kk v F' H' g ok' (Scal.any _ _ _ _ d)⟩
theorem xm_old (h : XM X b e Γ true p) : XM X b e Γ false p := PE.wk h fun σ H Q ⟨F, ok, kk⟩ => ⟨F, ok, fun v F' H' g ok' d => kk v F' H' g ok' (dq_mo (sel2_le true) _ _ d)⟩
theorem xma_nil : XMA X b [] Γ [] := PA.wk pa_nil fun σ H Q ⟨F, ok, kk⟩ => kk _ F H (Ex.rf F) ok .nil
theorem xma_cons {ds : List (Bool × PyData)} (h : XM X b e Γ k p) (hr : XMA X b es Γ ds) (hs : starEach (e :: es) X.env = (false, eval e X.env) :: starEach es X.env := by rfl) : XMA X b (e :: es) Γ ((k, Py.enc p) :: ds) :=
  PA.wk (pa_cons h hr hs) fun σ H Q ⟨F, ok, kk⟩ => ⟨F, ok, fun v F1 H1 g1 ok1 d1 => ⟨F1, ok1, fun vs F2 H2 g2 ok2 d2 => kk _ F2 H2 (g1.tr g2) ok2 (.cons (dq_mo (sel2_mo g2 k) _ _ d1) d2)⟩⟩
theorem xma_xa {ds : List (Bool × PyData)} (h : XA X b es Γ (stL ds)) : XMA X b es Γ ds := PA.wk h fun σ H Q ⟨F, ok, kk⟩ => ⟨F, ok, fun vs F' H' g d => kk vs F' H' g.f (ok.gr g) d⟩
theorem xm_opI0 {op : Operator} {g : Int → Int → Int} {x y : Int} (ho : OpR X (binaryOp op) (rI0 fun i j => .int (g i j))) (h1 : XM X b e1 Γ k x) (h2 : XM X b e2 Γ k' y) : XM X b (.BinOp e1 op e2 pos) Γ rl (g x y) :=
  PE.wk (pe_op ho h1 h2) fun σ H Q ⟨F, ok, kk⟩ => ⟨F, ok, fun v F1 H1 g1 ok1 d1 => ⟨F1, ok1, fun w F2 H2 g2 ok2 d2 => ⟨x, y, dp_int d1, dp_int d2, kk _ F2 H2 (g1.tr g2) ok2 (.int _)⟩⟩⟩
theorem xm_add {x y : Int} (h1 : XM X b e1 Γ k x) (h2 : XM X b e2 Γ k' y) : XM X b (.BinOp e1 .Add e2 pos) Γ rl (x + y) := xm_opI0 op_add h1 h2
theorem xm_cmp {op : CmpOp} {c : Bool} (cv : CmpV X b op (.st k) (.st k') (Py.enc p) (Py.enc q) c) (h1 : XM X b e1 Γ k p) (h2 : XM X b e2 Γ k' q) (hm : behindInMarks op e2 = false) : XM X b (.Compare e1 [op] [e2] pos) Γ rl c := by
  obtain ⟨r, ho, hr⟩ := cv
  exact PE.wk (pe_cmpR ho h1 h2 hm) fun σ H Q ⟨F, ok, kk⟩ => ⟨F, ok, fun v F1 H1 g1 ok1 d1 => ⟨F1, ok1, fun w F2 H2 g2 ok2 d2 =>
    hr F2 H2 v w _ ok2.fr (dq_mo (sel2_mo g2 k) _ _ d1) d2 (kk _ F2 H2 (g1.tr g2) ok2 (.bl _))⟩⟩
theorem xm_callB {x : Str} {bid : String} {ds : List (Bool × PyData)} (c : Cf X N sc mg W) (cv : CalV X b (.builtin bid) (stL ds) (.st k) (Py.enc p)) (hg : sc.names.lookup x = some .globalImplicit) (hm : mg x = none) (hv : bootBuiltins x = some (.builtin bid)) (ha : XMA X b (e :: es) Γ ds) (hn : x ≠ "__name__" := by decide) (hdb : (x == ("__debug__" : Str)) = false := by decide)
    (he : starEach (e :: es) X.env = (false, eval e X.env) :: starEach es X.env := by rfl) (hpl : (backTo pos (starEach es X.env)).any (·.1) = false := by rfl) : XM X b (.Call (.Name x pp) (e :: es) [] pos) Γ k p := by
  obtain ⟨r, hr, h⟩ := cv
  exact PE.wk (pe_callB hr (show X.env.scope.names.lookup x = _ by rw [c.hs]; exact hg) (by rw [c.hm]; exact hm) hv ha hn hdb he hpl) fun σ H Q ⟨F, ok, kk⟩ => ⟨F, ok, fun vs F1 H1 g1 ok1 d1 =>
    h F1 H1 vs Q ok1.fr d1 fun v F' H' g d => kk v F' H' (g1.tr g.f) (ok1.gr g) d⟩
theorem xm_tupD {n} {ds : List PyData} (h : XMA X b es Γ (ds.map fun d => (k, d))) (hp : Py.enc p = .tuple ds) (hz : Nat.ble ds.length 1000 = true := by rfl) : XM X b (.Tuple es n pos) Γ k p :=
  PE.wk (pe_tup h) fun σ H Q ⟨F, ok, kk⟩ => ⟨F, ok, fun vs F1 H1 g1 ok1 d1 => by
    have e : stL (ds.map fun d => (k, d)) = ds.map fun d => (Lv.st k, d) := by unfold stL; rw [List.map_map]; rfl
    rw [e] at d1
    have d2 := dql_all (lv := .st k) d1
    have hl := dqa_len d2
    have hz' := Nat.le_of_ble_eq_true hz
    refine ⟨by rw [hl]; exact Nat.le_trans hz' (by decide), fun l hl' => ?_⟩
    refine new_tup (lv := .st k) ok1.fr d2 (by rw [hl]; exact Nat.le_trans hz' (by decide)) hl' fun v F' H' g d => kk v F' H' (g1.tr g.f) (ok1.gr g) ?_
    rw [hp]
    exact d⟩
/-! ### statements -/
theorem xs_asgM {js : List Nat} (h : XM X b e Γ k p) (hg : XG X b tg Γ k p js Γ') (hs : swapsWithSole [tg] e pos.line X.env = pure false := by rfl) (hw : swappedStores [tg] e X.env = pure none := by rfl)
    (h1 : (assignEach [tg] X.env).map (·.2) = [assign tg X.env] := by rfl) : XS X b rl (.Assign [tg] e pos) Γ (none : Option β) Γ' :=
  PS.wk (ps_asg h hg hs hw h1) fun D σ H ⟨F, ok, kk⟩ => ⟨F, ok, fun v F' H' g ok1 d => ⟨F', ok1, d, fun σ' ok' _ _ => kk σ' F' H' g ok'⟩⟩
theorem xb_retM {Γr : List En} {r : β} (hR : b.R = Γr) (s : Wk Γ Γr) (h : XM X b e Γ rl r) : XB X b rl (.Return (some e) pos :: rest) Γ (some r) Γ' :=
  PSs.wk (pss_cons (ps_ret h) pss_never) fun D σ H ⟨F, ok, kk⟩ => ⟨F, ok, fun v F' H' g ok1 d => kk v σ F' H' g (hR ▸ s _ _ _ _ _ ok1) d⟩
theorem xs_appM {x : Str} {j : Nat} {xs : List α} {apos cpos p1 : Pos} (cf : Cf X N sc mg W) (hN : N[j]? = some x) (hv : Vis sc x) (hΓ : Γ[j]? = some (.res (ownR α k xs))) (he : XM X b e Γ k p) (hz : xs.length < 1000000) (hd : (x == ("__debug__" : Str)) = false := by decide) (hcd : (x == ("__classdict__" : Str)) = false := by decide)
    (hbase : attributeBase (.Name x p1) "append" X.env (eval (.Name x p1) X.env) = eval (.Name x p1) X.env := by rfl)
    (hfew : ((backTo cpos (starEach [e] X.env)).all (fun x => !x.1) && (backToKw cpos (keywordEach [] X.env)).all (fun x => x.1.isSome) && decide (([e] : List Expr).length + ([] : List Keyword).length + (if ([] : List Keyword).isEmpty then 0 else 1) < 30)) = true := by rfl)
    (hline : (apos.endLine == cpos.line) = true := by rfl) (hs : starEach [e] X.env = [(false, eval e X.env)] := by rfl) (hsw : swapsWith (.Call (.Attribute (.Name x p1) "append" apos) [e] [] cpos) none pos.line X.env = pure false := by rfl) :
    XS X b rl (.Expr (.Call (.Attribute (.Name x p1) "append" apos) [e] [] cpos) pos) Γ (none : Option β) (Γ.set j (.res (ownR α k (xs ++ [p])))) := by
  refine PS.wk (ps_expr (pe_bm PySem.F.plainAttrs_list PySem.F.slot_list_append PySem.F.type_list_append mt_append (pe_var (i := j) (by rw [cf.hN]; exact hN) (by rw [cf.hs]; exact hv) hd hcd) (xma_cons he xma_nil hs) hbase hfew hline hs) hsw) fun D σ H ⟨F, ok, kk⟩ => ?_
  obtain ⟨v, A, hσ, ⟨l, vs, rfl, hA, hl, hz', d⟩, hAl, _⟩ := ok.mut hΓ
  refine ⟨_, hσ, .inl ⟨rfl, vs, .inl (.inl hl)⟩, F, ok, fun ws F1 H1 g1 ok1 d1 => ?_⟩
  obtain ⟨y, rfl, d1'⟩ := dql1 d1
  obtain ⟨v', A', hσ', ⟨l', vs', rfl, hA', hl', hz2, d2⟩, hAl', mu⟩ := ok1.mut hΓ
  rw [hσ] at hσ'
  cases hσ'
  have lv : vs'.length < 1000000 := by rw [dqa_len d2, List.length_map]; exact hz
  refine ⟨l, vs', y, rfl, rfl, hl', Nat.lt_of_lt_of_le lv (by decide), kk _ F1 _ g1 (mu _ _ (fun m hm => upd_ne fun z => hm ((hA' m).mpr z)) (fun m hm => ?_) ⟨l, vs' ++ [y], rfl, hA', upd_same, ?_, ?_⟩)⟩
  · rw [(hA' m).mp hm, upd_same]; exact fun z => by cases z
  · rw [List.length_append]; exact Nat.le_trans (show vs'.length + [y].length ≤ 1000000 by simp; omega) (by decide)
  · rw [List.map_append]
    exact dqa_snoc d2 d1'
theorem xs_parM {i j : Nat} {x y : Str} {px pt : Pos} {kt k2 pt2} (c : Cf X N sc mg W) (hi : N[i]? = some x) (hj : N[j]? = some y) (hij : i ≠ j) (hx : sc.names.lookup x = some .local) (hy : sc.names.lookup y = some .local)
    (h1 : XM X b e1 Γ k p) (h2 : XM X b e2 Γ k' q) (hw : swappedStores [.Tuple [.Name x px, .Name y py] kt pt] (.Tuple [e1, e2] k2 pt2) X.env = pure (some [x, y]))
    (hs1 : starEach [e1, e2] X.env = (false, eval e1 X.env) :: starEach [e2] X.env := by rfl) (hs2 : starEach [e2] X.env = [(false, eval e2 X.env)] := by rfl) :
    XS X b rl (.Assign [.Tuple [.Name x px, .Name y py] kt pt] (.Tuple [e1, e2] k2 pt2) pos) Γ (none : Option γ) ((Γ.set i (.dat α ia k p)).set j (.dat β ib k' q)) :=
  PS.wk (ps_par c.calm (by rw [c.hN]; exact c.nd) (by rw [c.hN]; exact hi) (by rw [c.hN]; exact hj) hij (by rw [c.hs]; exact hx) (by rw [c.hs]; exact hy) (xma_cons h1 (xma_cons h2 xma_nil hs2) hs1) hw rfl) fun D σ H ⟨F, ok, kk⟩ => ⟨F, ok, fun vs F1 H1 g1 ok1 d1 => by
    obtain ⟨v, w, rfl, d, d'⟩ := dql2 d1
    exact ⟨v, w, rfl, kk _ F1 H1 g1 ((ok1.setD d i).setD d' j)⟩⟩
end
end Zk

namespace Zk
open PySem PySem.Spec PyProof.Rows L2

/-! ### defs with a memo as their last argument -/
def spM {ι : Type} (P : Program) (w : World) (rl : Bool) (ins : ι → List En) (mm : ι → Mm) (out : ι → PyData) : Sp := fun vs H Q _ => ∃ F i ws v A, vs = ws ++ [v] ∧ Ex F H ∧ ArgOk F ws (ins i) ∧ MemI P w (mm i).g (mm i).S0 [] F H v A ∧ (∀ l, A l → H l ≠ none ∧ F l = none) ∧
  ∀ u F' H', Ex F F' → Ex F' H' → (∀ l o, ¬ A l → H l = some o → H' l = some o) → (∀ l, H l ≠ none → F' l = F l) → (∀ l, A l → H' l ≠ none) → MemI P w (mm i).g (mm i).S0 [] F' H' v A → Dq (sel2 H F' rl) u (out i) → Q u H'
section
open Classical
variable {t : Tx} {ι : Type} {rl : Bool} {ins : ι → List En} {mm : ι → Mm} {out : ι → PyData} {N ps : List Str} {k j : Nat} {f : Addr} {fd : FuncData} {x : Str} {st : Stmt}
noncomputable def hole (A : Addr → Prop) (H : Hp) : Hp := fun l => if A l then none else H l
theorem hole_ex {A : Addr → Prop} {H : Hp} : Ex (hole A H) H := fun l o h => by
  unfold hole at h
  split at h
  · cases h
  · exact h
theorem hole_none {A : Addr → Prop} {H : Hp} {l : Addr} (h : A l) : hole A H l = none := if_pos h
theorem hole_out {A : Addr → Prop} {H : Hp} {l : Addr} (h : ¬ A l) : hole A H l = H l := if_neg h
def memE (t : Tx) (m : Mm) (v : V) : En := .res (memoR t.P t.w { m with o := some v } [])
/-- the start: data, then the memo -/
theorem start_envM {R : List En} {K : PySem.W.Frag} {H F : Hp} {vs : List V} {v : V} {A : Addr → Prop} {Γ : List En} {m : Mm} (e : Ex F H) (a : ArgOk F vs Γ) (hm : MemI t.P t.w m.g m.S0 [] F H v A) (hA : ∀ l, A l → H l ≠ none ∧ F l = none) (hN : Γ.length + 1 ≤ N.length) :
    EnvOk K ⟨hole A H, F, R⟩ F H (L2.start N (vs ++ [v])) (Γ ++ [memE t m v] ++ List.replicate (N.length - (Γ.length + 1)) .no) := by
  have hl := a.len
  refine ⟨⟨Ex.rf F, e, hole_ex, fun l hl => ?_⟩, ?_, fun i => if i = Γ.length then A else fun _ => False, fun i i' l h h' => ?_, fun i l h => ?_, fun i en he => ?_⟩
  · rfl
  · unfold L2.start
    simp only [List.length_append, List.length_map, List.length_replicate, List.length_cons, List.length_nil]
    omega
  · by_cases z : i = Γ.length
    · by_cases z' : i' = Γ.length
      · rw [z, z']
      · simp only [if_neg z'] at h'
    · simp only [if_neg z] at h
  · by_cases z : i = Γ.length
    · simp only [if_pos z] at h
      exact ⟨(hA l h).1, (hA l h).2, hole_none h⟩
    · simp only [if_neg z] at h
  · unfold L2.start
    rcases Nat.lt_trichotomy i Γ.length with hi | hi | hi
    · rw [List.append_assoc, List.getElem?_append_left hi] at he
      obtain ⟨u, α, ia, x, hv, rfl, d⟩ := a.at i en he
      refine ⟨some u, ?_, u, rfl, d⟩
      rw [List.map_append, List.append_assoc, List.getElem?_append_left (by simpa using (by omega : i < vs.length)), List.getElem?_map, hv]
      rfl
    · subst hi
      rw [List.append_assoc, List.getElem?_append_right (Nat.le_refl _), Nat.sub_self] at he
      cases he
      refine ⟨some v, ?_, v, rfl, ?_⟩
      · rw [List.map_append, List.append_assoc, List.getElem?_append_right (by rw [List.length_map]; omega), List.length_map, hl, Nat.sub_self]
        rfl
      · simp only [if_true]
        exact ⟨fun v0 h => (Option.some.inj h), hm⟩
    · rw [List.getElem?_append_right (by rw [List.length_append]; simp; omega)] at he
      have hb := (List.getElem?_eq_some_iff.mp he).1
      rw [List.length_replicate] at hb
      rw [List.getElem?_replicate, if_pos hb] at he
      cases he
      refine ⟨none, ?_, True.intro⟩
      have hb2 : i - (Γ.length + 1) < N.length - (Γ.length + 1) := by simpa using hb
      rw [List.getElem?_append_right (by simp; omega), List.getElem?_replicate, if_pos (by simp; omega)]
theorem fn_okM {qual : Str} (Fn : Fun t.K x qual st f fd) (S : FnScope N ps (defScope st)) (hl : ∀ i, (ins i).length + 1 = ps.length)
    (body : ∀ (X : Cx) (b : Bs) (i : ι) (v0 : V), Cf X N (defScope st) t.mg (fun _ => true) → At X t k → b.R = List.replicate (ps.length - 1) .no ++ [memE t (mm i) v0] ++ List.replicate (N.length - ps.length) .no →
      PSs X (defBody st) (tS X.K b rl (ins i ++ [memE t (mm i) v0] ++ List.replicate (N.length - ps.length) .no) (some (out i)) [])) :
    FnOk t.P t.w t.K t.mg t.base CX0 (k + 1) f fd ps (spM t.P t.w rl ins mm out) := by
  have hpl : ps.length ≤ N.length := by have := congrArg List.length S.pre; rw [List.length_take] at this; omega
  refine Fn.ok S (fun vs H Q E ⟨F, i, ws, v, A, e, _, a, _⟩ => ?_) (fun cdv Ar outer s H vs Q E hr h => ?_)
  · rw [e, List.length_append, a.len]
    exact hl i
  obtain ⟨F, i, ws, v, A, rfl, e, a, hm, hA, kk⟩ := h
  have h := body (cxOf CX0 t.P t.w t.K t.mg t.base N qual (defScope st) f cdv Ar outer s H E).nox ⟨hole A H, F, List.replicate (ps.length - 1) .no ++ [memE t (mm i) v] ++ List.replicate (N.length - ps.length) .no⟩ i v
    ⟨rfl, rfl, rfl, S.nd, rfl, PassesOwn.never, (by have := hr.un; show (Ar.deeper _).units + 65 < _; omega), fun _ _ => .inl rfl⟩ ⟨rfl, rfl, rfl, rfl, rfl, hr⟩ rfl
  have hs := start_envM (t := t) (N := N) (R := List.replicate (ps.length - 1) .no ++ [memE t (mm i) v] ++ List.replicate (N.length - ps.length) .no) (K := t.K) e a hm hA (by have := hl i; omega)
  rw [hl i] at hs
  refine ⟨_, h, F, hs, fun u σ' F' H' e' ok' d => ?_⟩
  obtain ⟨fp, oa⟩ := ok'.get
  have hj : (List.replicate (ps.length - 1) En.no ++ [memE t (mm i) v] ++ List.replicate (N.length - ps.length) En.no)[ps.length - 1]? = some (memE t (mm i) v) := by
    rw [List.append_assoc, List.getElem?_append_right (by simp)]
    simp
  obtain ⟨o, ho, v', rfl, hid, hm'⟩ := oa.sl _ _ hj
  have hv := hid v rfl
  subst hv
  obtain ⟨d1, xs1, e1, hA1, _⟩ := hm.ex
  obtain ⟨d2, xs2, e2, hA2, m2, _⟩ := hm'.ex
  have hd : d2 = d1 := by
    have e3 := e1.symm.trans e2
    cases e3
    rfl
  subst hd
  have hAA : ∀ l, fp (ps.length - 1) l ↔ A l := fun l => (hA2 l).trans (hA1 l).symm
  have hAe : fp (ps.length - 1) = A := funext fun l => propext (hAA l)
  rw [hAe] at hm'
  refine kk u F' H' oa.fr.f oa.fr.h (fun l o hl q => oa.fr.b l o (by show hole A H l = some o; rw [hole_out hl]; exact q)) (fun l hl => ?_) (fun l hl => ?_) hm' (dq_mo (fun l o q => ?_) _ _ d)
  · by_cases z : A l
    · have z2 := (hAA l).mpr z
      rw [(oa.ow _ l z2).2.1, (hA l z).2]
    · exact oa.fr.n l (by show hole A H l ≠ none; rw [hole_out z]; exact hl)
  · exact (oa.ow _ l ((hAA l).mpr hl)).1
  · cases rl with
    | false => exact q
    | true =>
      simp only [sel2] at q ⊢
      have q : (match hole A H l with | none => nofrz (F' l) | some _ => none) = some o := q
      by_cases z : A l
      · rw [hole_none z] at q
        have q : nofrz (F' l) = some o := q
        rw [(oa.ow _ l ((hAA l).mpr z)).2.1] at q
        cases q
      · rw [hole_out z] at q
        exact q
structure FnM (t : Tx) (x : Str) (j : Nat) (ps : List Str) (sp : Sp) : Prop where
  ex : ∃ f fd, FnOk t.P t.w t.K t.mg t.base CX0 j f fd ps sp ∧ t.mg x = some (.ref f) ∧ PySem.W.keepIn t.K (.ref f) = true ∧ Binds t.K fd ps []
theorem fn_defM (D : DefAt t x st) (S : FnScope N ps (defScope st))
    (hb : ∀ (kV doc pm : Value) (an : Option Addr) (cdv ct : Value) (us : List Value), us.length = ps.length → bindArgs (PySem.W.fnOf x x (defArgs st) (defBody st) (defScope st) .none kV doc pm an cdv ct) ⟨us, []⟩ = pure (ps.zip us))
    (hl : ∀ i, (ins i).length + 1 = ps.length)
    (body : ∀ (X : Cx) (b : Bs) (i : ι) (v0 : V), Cf X N (defScope st) t.mg (fun _ => true) → At X t k → b.R = List.replicate (ps.length - 1) .no ++ [memE t (mm i) v0] ++ List.replicate (N.length - ps.length) .no →
      PSs X (defBody st) (tS X.K b rl (ins i ++ [memE t (mm i) v0] ++ List.replicate (N.length - ps.length) .no) (some (out i)) [])) :
    FnAt t x (k + 1) ps (spM t.P t.w rl ins mm out) := by
  obtain ⟨f, fd, F, hm⟩ := D.ex
  exact ⟨f, fd, fn_okM F S hl body, hm, F.kp, F.binds hb⟩
end
/-! ### calls -/
def tMAm (K : PySem.W.Frag) (b : Bs) (Γ : List En) (ds : List (Bool × PyData)) (j : Nat) : TA := fun σ H Q => ∃ F, EnvOk K b F H σ Γ ∧ ∀ vs v F' H', Ex F F' → EnvOk K b F' H' σ Γ → DqL b F' H' vs (stL ds) → σ[j]? = some (some v) → Q (vs ++ [v]) H'
abbrev XMAm (X : Cx) (b : Bs) (es : List Expr) (Γ : List En) (ds : List (Bool × PyData)) (j : Nat) : Prop := PA X es (tMAm X.K b Γ ds j)
section
variable {X : Cx} {t : Tx} {b : Bs} {N ps : List Str} {sc scope : Scope} {mg : Str → Option Value} {W : Str → Bool} {Γ Γ' Γ1 Γ2 : List En} {k k' rl : Bool} {lv la lb lc : Lv} {pos pos' pp py tpos : Pos} {e e1 e2 e3 tg : Expr} {es : List Expr} {n j m : Nat} {x y : Str}
variable {α β γ δ : Type} [ia : Py α] [ib : Py β] [ic : Py γ] [id' : Py δ] {p : α} {q : β} {r : Res} {ι : Type} {ins : ι → List En} {mm : ι → Mm} {out : ι → PyData}
theorem xmm_nil (cf : Cf X N sc mg W) (hN : N[j]? = some x) (hv : Vis sc x) (hΓ : Γ[j]? = some (.res r)) (hd : (x == ("__debug__" : Str)) = false := by decide) (hcd : (x == ("__classdict__" : Str)) = false := by decide) (hs : starEach [.Name x pos] X.env = [(false, eval (.Name x pos) X.env)] := by rfl) : XMAm X b [.Name x pos] Γ [] j :=
  PA.wk (pa_cons (pe_var (i := j) (by rw [cf.hN]; exact hN) (by rw [cf.hs]; exact hv) hd hcd) pa_nil hs) fun σ H Q ⟨F, ok, kk⟩ => by
    obtain ⟨fp, oa⟩ := ok.get
    obtain ⟨o, ho, v, rfl, _⟩ := oa.sl j _ hΓ
    exact ⟨v, ho, kk [] v F H (Ex.rf F) ok .nil ho⟩
theorem xmm_cons {ds : List (Bool × PyData)} (h : XM X b e Γ k p) (hr : XMAm X b es Γ ds j) (hs : starEach (e :: es) X.env = (false, eval e X.env) :: starEach es X.env := by rfl) : XMAm X b (e :: es) Γ ((k, Py.enc p) :: ds) j :=
  PA.wk (pa_cons h hr hs) fun σ H Q ⟨F, ok, kk⟩ => ⟨F, ok, fun v F1 H1 g1 ok1 d1 => ⟨F1, ok1, fun vs w F2 H2 g2 ok2 d2 hw => kk (v :: vs) w F2 H2 (g1.tr g2) ok2 (.cons (dq_mo (sel2_mo g2 k) _ _ d1) d2) hw⟩⟩
/-- what comes of a call: the memo changed, all else kept -/
theorem EnvAt.call {K : PySem.W.Frag} {F H F' H' : Hp} {σ : L2.St} {fp : Nat → Addr → Prop} {r' : Res} (o : EnvAt K b F H σ Γ fp) (hΓ : Γ[j]? = some (.res r)) (h1 : Ex F F') (h2 : Ex F' H') (h3 : ∀ l o, ¬ fp j l → H l = some o → H' l = some o) (h4 : ∀ l, H l ≠ none → F' l = F l) (h5 : ∀ l, fp j l → H' l ≠ none)
    (hr : ∀ v, σ[j]? = some (some v) → r'.R K b.B F' H' v (fp j)) : EnvAt K b F' H' σ (Γ.set j (.res r')) fp := by
  obtain ⟨fr, len, dj, ow, sl⟩ := o
  have bj : ∀ l o, b.B l = some o → ¬ fp j l := fun l o h z => by rw [(ow j l z).2.2] at h; cases h
  refine ⟨⟨fr.f.tr h1, h2, fun l o h => h3 l o (bj l o h) (fr.b l o h), fun l hl => (h4 l (fr.b.ne hl)).trans (fr.n l hl)⟩, by simpa using len, dj, fun i l h => ?_, fun i e he => ?_⟩
  · obtain ⟨a, c, d⟩ := ow i l h
    refine ⟨?_, (h4 l a).trans c, d⟩
    by_cases z : fp j l
    · exact h5 l z
    · cases q : H l with
      | none => exact absurd q a
      | some u => rw [h3 l u z q]; exact fun y => by cases y
  · by_cases z : j = i
    · subst z
      have hjl : j < Γ.length := by simpa using (List.getElem?_eq_some_iff.mp he).1
      rw [List.getElem?_set_self hjl] at he
      cases he
      obtain ⟨o, ho, v, rfl, _⟩ := sl j _ hΓ
      exact ⟨_, ho, v, rfl, hr v ho⟩
    · rw [List.getElem?_set_ne z] at he
      obtain ⟨o, a, c⟩ := sl i e he
      exact ⟨o, a, c.gr h1 fun l o hl q => h3 l o (fun y => z (dj j i l y hl)) q⟩
theorem xm_fn {m' : Mm} {ds : List (Bool × PyData)} (c : Cf X N sc mg W) (a : At X t n) (G : FnAt t x m ps (spM t.P t.w rl ins mm out)) (hj : m ≤ n) (hg : sc.names.lookup x = some .globalImplicit) (i : ι) (hΓ : Γ[j]? = some (.res (memoR t.P t.w m' []))) (hmm : (mm i).g = m'.g ∧ (mm i).S0 = m'.S0)
    (ha : XMAm X b (e :: es) Γ ds j) (fit : Fit (stL ds) (ins i)) (hp : out i = Py.enc p := by rfl) (hdb : (x == ("__debug__" : Str)) = false := by decide)
    (he : starEach (e :: es) X.env = (false, eval e X.env) :: starEach es X.env := by rfl) (hpl : (backTo pos (starEach es X.env)).any (·.1) = false := by rfl) : XM X b (.Call (.Name x pp) (e :: es) [] pos) Γ rl p := by
  obtain ⟨f, fd, G, hm, hk, hb⟩ := G.ex
  refine PE.wk (pe_call (fn_at a G) (a.hr.mono hj) (show X.env.scope.names.lookup x = _ by rw [c.hs]; exact hg) (by rw [a.hm]; exact hm) (by rw [a.hK]; exact hk) (by rw [a.hK]; exact hb) .nil pass0 ha hdb he hpl) fun σ H Q ⟨F, ok, kk⟩ => ⟨F, ok, fun vs v F1 H1 g1 ok1 d1 hσ => ?_⟩
  obtain ⟨fp, oa⟩ := ok1.get
  obtain ⟨o, ho, v', rfl, hid, hI⟩ := oa.sl j _ hΓ
  rw [hσ] at ho
  cases ho
  refine ⟨F1, i, vs, v, fp j, by rw [List.append_nil], ok1.fr.h, fit.ok d1, by rw [hmm.1, hmm.2]; exact hI, fun l hl => ⟨(oa.ow j l hl).1, (oa.ow j l hl).2.1⟩, fun u F' H' h1 h2 h3 h4 h5 hI' d => ?_⟩
  rw [hmm.1, hmm.2] at hI'
  have oc := oa.call (r' := memoR t.P t.w m' []) hΓ h1 h2 h3 h4 h5 fun w hw => by
    rw [hσ] at hw
    cases hw
    exact ⟨hid, hI'⟩
  have hset : Γ.set j (.res (memoR t.P t.w m' [])) = Γ := by
    apply List.ext_getElem?
    intro l
    by_cases z : j = l
    · subst z
      rw [List.getElem?_set_self (List.getElem?_eq_some_iff.mp hΓ).1, hΓ]
    · rw [List.getElem?_set_ne z]
  rw [hset] at oc
  refine kk u F' H' (g1.tr h1) oc.ok ?_
  rw [hp] at d
  refine dq_mo (fun l o q => ?_) _ _ d
  cases rl with
  | false => exact q
  | true =>
    have q : sel2 H1 F' true l = some o := q
    show sel2 b.B F' true l = some o
    simp only [sel2] at q ⊢
    cases z : H1 l with
    | none => rw [z] at q; rw [ok1.fr.b.no z]; exact q
    | some u => rw [z] at q; cases q
end
end Zk

namespace Zk
open PySem PySem.Spec PyProof.Rows L2

/-! ### a new memo -/
def tAn (P : Program) (w : World) (K : PySem.W.Frag) (b : Bs) (Γ : List En) (ds : List (Lv × PyData)) : TA := fun σ H Q => ∃ F, EnvOk K b F H σ Γ ∧ ∀ vs F' H' p, Grow F H F' H' → DqL b F' H' vs ds → H' p = none → (p == sysModules) = false → Q (vs ++ [.ref p]) (upd H' p (.ext (memF P w p [])))
theorem memI_new {P : Program} {w : World} {g : List (List Int) → Int} {S0 : List (List Int)} {F H : Hp} {p : Addr} (h : (p == sysModules) = false) (hz : S0.length ≤ 16) : MemI P w g S0 [] F (upd H p (.ext (memF P w p []))) (.ref p) (fun l => l = p) :=
  ⟨p, [], rfl, fun l => Iff.rfl, ⟨upd_same, h, List.nodup_nil, fun x hx => (nomatch hx)⟩, fun x hx => (nomatch hx), fun S hS => (nomatch hS), hz⟩
section
variable {X : Cx} {t : Tx} {b : Bs} {N ps : List Str} {sc scope : Scope} {mg : Str → Option Value} {W : Str → Bool} {Γ Γ' Γ1 Γ2 : List En} {k k' rl rl' : Bool} {lv la lb lc : Lv} {pos pos' pp py tpos dpos : Pos} {e e1 e2 e3 tg : Expr} {es : List Expr} {n j m : Nat} {x y : Str}
variable {α β γ δ : Type} [ia : Py α] [ib : Py β] [ic : Py γ] [id' : Py δ] {p : α} {q : β} {r : Res} {ι : Type} {ins : ι → List En} {mm : ι → Mm} {out : ι → PyData}
theorem xan_nil (hs : starEach [.Dict [] [] dpos] X.env = [(false, eval (.Dict [] [] dpos) X.env)] := by rfl) : PA X [.Dict [] [] dpos] (tAn X.prog X.w X.K b Γ []) :=
  PA.wk (pa_cons pe_mnew pa_nil hs) fun σ H Q ⟨F, ok, kk⟩ p hp hn => kk [] F H p (Grow.rf ok.fr.h) .nil hp hn
theorem xan_cons {ds : List (Lv × PyData)} (h : XE X b e Γ lv p) (hr : PA X es (tAn X.prog X.w X.K b Γ ds)) (hs : starEach (e :: es) X.env = (false, eval e X.env) :: starEach es X.env := by rfl) : PA X (e :: es) (tAn X.prog X.w X.K b Γ ((lv, Py.enc p) :: ds)) :=
  PA.wk (pa_cons h hr hs) fun σ H Q ⟨F, ok, kk⟩ => ⟨F, ok, fun v F1 H1 g1 d1 => ⟨F1, ok.gr g1, fun vs F2 H2 w g2 d2 hw hn => kk (v :: vs) F2 H2 w (g1.tr g2) (.cons (dq_mo (sel_mo g2 _) _ _ d1) d2) hw hn⟩⟩
theorem xe_fnNew {ds : List (Lv × PyData)} (c : Cf X N sc mg W) (a : At X t n) (G : FnAt t x m ps (spM t.P t.w rl ins mm out)) (hj : Nat.ble m n = true) (hg : sc.names.lookup x = some .globalImplicit) (i : ι) (hz : (mm i).S0.length ≤ 16)
    (ha : PA X (e :: es) (tAn X.prog X.w X.K b Γ ds)) (fit : Fit ds (ins i)) (hp : out i = Py.enc p := by rfl) (hdb : (x == ("__debug__" : Str)) = false := by decide)
    (he : starEach (e :: es) X.env = (false, eval e X.env) :: starEach es X.env := by rfl) (hpl : (backTo pos (starEach es X.env)).any (·.1) = false := by rfl) : XE X b (.Call (.Name x pp) (e :: es) [] pos) Γ (.st rl) p := by
  obtain ⟨f, fd, G, hm, hk, hb⟩ := G.ex
  refine PE.wk (pe_call (fn_at a G) (a.hr.mono (Nat.le_of_ble_eq_true hj)) (show X.env.scope.names.lookup x = _ by rw [c.hs]; exact hg) (by rw [a.hm]; exact hm) (by rw [a.hK]; exact hk) (by rw [a.hK]; exact hb) .nil pass0 ha hdb he hpl) fun σ H Q ⟨F, ok, kk⟩ => ⟨F, ok, fun vs F1 H1 q g1 d1 hq hn => ?_⟩
  have ok1 := ok.gr g1
  have hFq : F1 q = none := ok1.fr.h.no hq
  refine ⟨F1, i, vs, .ref q, fun l => l = q, by rw [List.append_nil], ok1.fr.h.tr (Ex.nw hq), fit.ok d1, by rw [a.hP, a.hw]; exact memI_new hn hz, fun l hl => ?_, fun u F' H' h1 h2 h3 h4 h5 hI' d => ?_⟩
  · have hl : l = q := hl
    subst hl
    exact ⟨by rw [upd_same]; exact fun z => (nomatch z), hFq⟩
  · have hlq : ∀ l, H1 l ≠ none → l ≠ q := fun l hl z => hl (z ▸ hq)
    have g2 : Grow F1 H1 F' H' := ⟨h1, h2, fun l o ho => h3 l o (hlq l (by rw [ho]; exact fun z => by cases z)) (by rw [upd_ne (hlq l (by rw [ho]; exact fun z => by cases z))]; exact ho), fun l hl => h4 l (by rw [upd_ne (hlq l hl)]; exact hl)⟩
    refine kk u F' H' (g1.tr g2) ?_
    rw [hp] at d
    refine dq_mo (fun l o ho => ?_) _ _ d
    cases rl with
    | false => exact ho
    | true =>
      have ho : sel2 (upd H1 q (.ext (memF X.prog X.w q []))) F' true l = some o := ho
      show sel2 b.B F' true l = some o
      simp only [sel2] at ho ⊢
      by_cases z : l = q
      · subst z
        rw [upd_same] at ho
        cases ho
      · rw [upd_ne z] at ho
        cases y : H1 l with
        | none => rw [y] at ho; rw [ok1.fr.b.no y]; exact ho
        | some u => rw [y] at ho; cases ho
theorem xs_newMemo (cf : Cf X N sc mg W) (a : At X t n) (hN : N[j]? = some x) (hx : L2.Loc sc x) (hW : W x = true) (g : List (List Int) → Int) (S0 : List (List Int)) (hz : S0.length ≤ 16) :
    XS X b rl (.Assign [.Name x pos'] (.Dict [] [] dpos) pos) Γ (none : Option β) (Γ.set j (.res (memoR t.P t.w ⟨g, S0, none⟩ []))) := by
  have hx' : L2.Loc X.env.scope x := by rw [cf.hs]; exact hx
  refine PS.wk (ps_asg pe_mnew (pg_name (i := j) (by rw [cf.hN]; exact cf.nd) (by rw [cf.hN]; exact hN) hx' (cf.fn x hW))) fun D σ H ⟨F, ok, kk⟩ q hq hn => ?_
  have hF : F q = none := ok.fr.h.no hq
  refine kk _ F _ (Ex.rf F) (ok.newR (F' := F) (H' := upd H q (.ext (memF X.prog X.w q []))) (r := memoR t.P t.w ⟨g, S0, none⟩ []) (A := fun l => l = q) ⟨Ex.rf F, ok.fr.h.tr (Ex.nw hq), Ex.nw hq, fun _ _ => rfl⟩ (fun l hl => ?_) ⟨fun v0 h => (by cases h), by rw [a.hP, a.hw]; exact memI_new hn hz⟩ j)
  have hl : l = q := hl
  subst hl
  exact ⟨hq, by rw [upd_same]; exact fun z => (nomatch z), hF⟩
end
end Zk

namespace Zk
open PySem PySem.Spec PyProof.Rows L2

/-! ### halves, least depths, least mistakes -/
def halfM (S : List (List Int)) (p : Int) (b : Bool) : List (List Int) := S.filter fun one => decide (memB p one = b)
def partM (S : List (List Int)) (n : Int) : List Int := (rg 0 n.toNat).filter fun p => decide ((0 : Int) < ((halfM S p true).length : Int)) && decide (((halfM S p true).length : Int) < (S.length : Int))
theorem half_mem {S : List (List Int)} {p : Int} {b : Bool} {f : List Int} : f ∈ halfM S p b ↔ f ∈ S ∧ memB p f = b := by
  unfold halfM
  rw [List.mem_filter, decide_eq_true_iff]
theorem half_sub (S : List (List Int)) (p : Int) (b : Bool) : (halfM S p b).Sublist S := List.filter_sublist
theorem half_sum : ∀ (S : List (List Int)) (p : Int), (halfM S p false).length + (halfM S p true).length = S.length
  | [], _ => rfl
  | f :: S, p => by
    have ih := half_sum S p
    unfold halfM at ih ⊢
    rw [List.filter_cons, List.filter_cons, List.length_cons]
    cases memB p f
    · show (f :: S.filter fun one => decide (memB p one = false)).length + (S.filter fun one => decide (memB p one = true)).length = S.length + 1
      rw [List.length_cons]
      omega
    · show (S.filter fun one => decide (memB p one = false)).length + (f :: S.filter fun one => decide (memB p one = true)).length = S.length + 1
      rw [List.length_cons]
      omega
theorem part_mem {S : List (List Int)} {n p : Int} : p ∈ partM S n ↔ (0 ≤ p ∧ p < n) ∧ 0 < (halfM S p true).length ∧ (halfM S p true).length < S.length := by
  unfold partM
  rw [List.mem_filter, mem_rg, Bool.and_eq_true, decide_eq_true_iff, decide_eq_true_iff]
  omega
theorem part_lt {S : List (List Int)} {n p : Int} (h : p ∈ partM S n) (b : Bool) : (halfM S p b).length < S.length ∧ 0 < (halfM S p b).length := by
  have h1 := part_mem.mp h
  have h2 := half_sum S p
  cases b <;> omega
theorem differ {n : Int} {f g : List Int} (hf : Ris n f) (hg : Ris n g) (h : f ≠ g) : ∃ p, (0 ≤ p ∧ p < n) ∧ memB p f ≠ memB p g := by
  refine Classical.byContradiction fun no => h (ris_ext hf.1 hg.1 fun x => ?_)
  have key : ∀ {a b : List Int}, Ris n a → (∀ p, (0 ≤ p ∧ p < n) → memB p a = memB p b) → x ∈ a → x ∈ b := fun ha e hx => memB_t.mp ((e x (ha.2 x hx)).symm.trans (memB_t.mpr hx))
  have e : ∀ p, (0 ≤ p ∧ p < n) → memB p f = memB p g := fun p hp => Classical.byContradiction fun z => no ⟨p, hp, z⟩
  exact ⟨key hf e, key hg fun p hp => (e p hp).symm⟩
theorem part_ne {S : List (List Int)} {n : Int} (hn : S.Nodup) (hr : ∀ f ∈ S, Ris n f) (h2 : 2 ≤ S.length) : partM S n ≠ [] := by
  match S, hn, hr, h2 with
  | f :: g :: S, hn, hr, _ =>
    have hne : f ≠ g := by
      intro z
      subst z
      simp at hn
    obtain ⟨p, hp, hd⟩ := differ (hr f (by simp)) (hr g (by simp)) hne
    have hm : p ∈ partM (f :: g :: S) n := by
      refine part_mem.mpr ⟨hp, ?_⟩
      have e := half_sum (f :: g :: S) p
      have pos : ∀ b, 0 < (halfM (f :: g :: S) p b).length := fun b => by
        by_cases q : memB p f = b
        · exact List.length_pos_of_mem (half_mem.mpr ⟨by simp, q⟩)
        · refine List.length_pos_of_mem (a := g) (half_mem.mpr ⟨by simp, ?_⟩)
          cases h1 : memB p f <;> cases h2 : memB p g <;> cases b <;> simp_all
      have p1 := pos true
      have p2 := pos false
      omega
    intro z
    rw [z] at hm
    cases hm
def dF (n : Int) : Nat → List (List Int) → Int
  | 0, _ => 0
  | k + 1, S => if S.length < 2 then 0 else minL ((partM S n).map fun p => 1 + max (dF n k (halfM S p false)) (dF n k (halfM S p true)))
def dM (n : Int) (S : List (List Int)) : Int := dF n S.length S
theorem dF_any (n : Int) : ∀ (k l : Nat) (S : List (List Int)), S.length ≤ k → S.length ≤ l → dF n k S = dF n l S
  | 0, 0, _, _, _ => rfl
  | 0, l + 1, S, h, _ => by
    have : S.length < 2 := by omega
    unfold dF
    rw [if_pos this]
  | k + 1, 0, S, _, h => by
    have : S.length < 2 := by omega
    show (if S.length < 2 then 0 else _) = (0 : Int)
    rw [if_pos this]
  | k + 1, l + 1, S, h1, h2 => by
    unfold dF
    by_cases h : S.length < 2
    · rw [if_pos h, if_pos h]
    · rw [if_neg h, if_neg h]
      refine congrArg minL (List.map_congr_left fun p hp => ?_)
      have a := part_lt hp false
      have b := part_lt hp true
      rw [dF_any n k l _ (by omega) (by omega), dF_any n k l _ (by omega) (by omega)]
theorem dM_eq (n : Int) (S : List (List Int)) : dM n S = if S.length < 2 then 0 else minL ((partM S n).map fun p => 1 + max (dM n (halfM S p false)) (dM n (halfM S p true))) := by
  unfold dM
  rw [dF_any n S.length (S.length + 1) S (Nat.le_refl _) (Nat.le_succ _)]
  show (if S.length < 2 then 0 else _) = _
  by_cases h : S.length < 2
  · rw [if_pos h, if_pos h]
  · rw [if_neg h, if_neg h]
    refine congrArg minL (List.map_congr_left fun p hp => ?_)
    have a := part_lt hp false
    have b := part_lt hp true
    rw [dF_any n S.length _ _ (by omega) (Nat.le_refl _), dF_any n S.length _ (halfM S p true) (by omega) (Nat.le_refl _)]
def mF (n : Int) : Nat → List (List Int) → Int
  | 0, S => (S.length : Int) - 1
  | k + 1, S => if S.length < 2 then (S.length : Int) - 1 else maxL ((partM S n).map fun p => max (max (mF n k (halfM S p false)) (mF n k (halfM S p true))) (1 + min (mF n k (halfM S p false)) (mF n k (halfM S p true))))
def mM (n : Int) (S : List (List Int)) : Int := mF n S.length S
theorem mF_any (n : Int) : ∀ (k l : Nat) (S : List (List Int)), S.length ≤ k → S.length ≤ l → mF n k S = mF n l S
  | 0, 0, _, _, _ => rfl
  | 0, l + 1, S, h, _ => by
    have : S.length < 2 := by omega
    show (S.length : Int) - 1 = (if S.length < 2 then (S.length : Int) - 1 else _)
    rw [if_pos this]
  | k + 1, 0, S, _, h => by
    have : S.length < 2 := by omega
    show (if S.length < 2 then (S.length : Int) - 1 else _) = (S.length : Int) - 1
    rw [if_pos this]
  | k + 1, l + 1, S, h1, h2 => by
    unfold mF
    by_cases h : S.length < 2
    · rw [if_pos h, if_pos h]
    · rw [if_neg h, if_neg h]
      refine congrArg maxL (List.map_congr_left fun p hp => ?_)
      have a := part_lt hp false
      have b := part_lt hp true
      rw [mF_any n k l _ (by omega) (by omega), mF_any n k l (halfM S p true) (by omega) (by omega)]
theorem mM_eq (n : Int) (S : List (List Int)) : mM n S = if S.length < 2 then (S.length : Int) - 1 else maxL ((partM S n).map fun p => max (max (mM n (halfM S p false)) (mM n (halfM S p true))) (1 + min (mM n (halfM S p false)) (mM n (halfM S p true)))) := by
  unfold mM
  rw [mF_any n S.length (S.length + 1) S (Nat.le_refl _) (Nat.le_succ _)]
  show (if S.length < 2 then (S.length : Int) - 1 else _) = _
  by_cases h : S.length < 2
  · rw [if_pos h, if_pos h]
  · rw [if_neg h, if_neg h]
    refine congrArg maxL (List.map_congr_left fun p hp => ?_)
    have a := part_lt hp false
    have b := part_lt hp true
    rw [mF_any n S.length _ (halfM S p false) (by omega) (Nat.le_refl _), mF_any n S.length _ (halfM S p true) (by omega) (Nat.le_refl _)]
end Zk

namespace Zk
open PySem PySem.Spec PyProof.Rows L2

/-! ### while, without a return within -/
def stT : Stmt → Expr
  | .While t _ _ _ => t
  | .If t _ _ _ => t
  | _ => .Constant .none 0 ⟨0, 0, 0, 0⟩
def wEnd {S : Type} (c : S → Bool) (step : S → S) : Nat → S → S
  | 0, s => s
  | n + 1, s => if c s = true then wEnd c step n (step s) else s
inductive WR {S : Type} (c : S → Bool) (step : S → S) (s0 : S) : S → Prop
  | z : WR c step s0 s0
  | s {s : S} : WR c step s0 s → c s = true → WR c step s0 (step s)
section
variable {X : Cx} {b : Bs} {N : List Str} {sc : Scope} {mg : Str → Option Value} {W : Str → Bool} {Γ Γ' Γ1 Γ2 : List En} {k rl : Bool} {pos : Pos} {t : Expr} {body : List Stmt}
variable {S β : Type} [Py β]
theorem xs_whileN {Γs : S → List En} {c : S → Bool} {step : S → S} (n : Nat) (s0 : S) (cf : Cf X N sc mg W) (hΓ : Sub Γ (Γs s0)) (hn : c (wEnd c step n s0) = false)
    (ht : ∀ s, WR c step s0 s → XT X b t (Γs s) (c s)) (hb : ∀ s, WR c step s0 s → c s = true → XB X b rl body (Γs s) (none : Option β) (Γs (step s))) :
    XS X b rl (.While t body [] pos) Γ (none : Option β) (Γs (wEnd c step n s0)) := by
  refine PS.wk (ps_while
    (tc := fun σ H Q => ∃ s, WR c step s0 s ∧ tT X.K b (Γs s) (c s) σ H Q)
    (tb := fun D σ H => ∃ s, (WR c step s0 s ∧ c s = true) ∧ tS X.K b rl (Γs s) none (Γs (step s)) D σ H)
    cf.pass ⟨fun pins s' σ H Q I h => ?_⟩ ⟨fun pins s' σ H D I h => ?_⟩) ?_
  · obtain ⟨s, hv, h⟩ := h
    exact (ht s hv).run _ _ _ _ _ I h
  · obtain ⟨s, ⟨hv, hc⟩, h⟩ := h
    exact (hb s hv hc).run _ _ _ _ _ I h
  · rintro D σ H ⟨F0, ok0, kk⟩
    refine ⟨fun m σ H => ∃ F s, Ex F0 F ∧ EnvOk X.K b F H σ (Γs s) ∧ WR c step s0 s ∧ wEnd c step m s = wEnd c step n s0, ⟨n, F0, s0, Ex.rf F0, ok0.sub hΓ, .z, rfl⟩, ?_⟩
    rintro m σ H ⟨F, s, eF, ok, hv, hrun⟩
    refine ⟨s, hv, F, ok, fun F1 H1 g1 => ?_⟩
    cases hc : c s with
    | false =>
      refine iteF ?_
      have hs : wEnd c step m s = s := by
        cases m with
        | zero => rfl
        | succ m => show (if c s = true then wEnd c step m (step s) else s) = s; rw [hc]; rfl
      rw [hs] at hrun
      rw [← hrun] at kk
      exact kk σ F1 H1 (eF.tr g1.f) (ok.gr g1)
    | true =>
      cases m with
      | zero =>
        have hrun : s = wEnd c step n s0 := hrun
        rw [← hrun, hc] at hn
        cases hn
      | succ m =>
        have hrun : (if c s = true then wEnd c step m (step s) else s) = wEnd c step n s0 := hrun
        rw [if_pos hc] at hrun
        refine iteT ⟨fun σ' H' => ∃ F s', Ex F0 F ∧ EnvOk X.K b F H' σ' (Γs s') ∧ WR c step s0 s' ∧ wEnd c step m s' = wEnd c step n s0, fun σ' H' h' => ⟨m, Nat.lt_succ_self _, h'⟩, s, ⟨hv, hc⟩, F1, ok.gr g1, ?_⟩
        exact fun σ' F' H' e' ok' => ⟨F', step s, eF.tr (g1.f.tr e'), ok', .s hv hc, hrun⟩
end
end Zk

namespace Zk
open PySem PySem.Spec PyProof.Rows L2

/-! ### bounds -/
structure Val (n : Int) (S : List (List Int)) : Prop where
  nd : S.Nodup
  ris : ∀ f ∈ S, Ris n f
theorem Val.half {n : Int} {S : List (List Int)} (h : Val n S) (p : Int) (b : Bool) : Val n (halfM S p b) := ⟨(half_sub S p b).nodup h.nd, fun f hf => h.ris f (half_mem.mp hf).1⟩
theorem part_some {n : Int} {S : List (List Int)} (h : Val n S) (h2 : 2 ≤ S.length) : ∃ p, p ∈ partM S n := List.exists_mem_of_ne_nil _ (part_ne h.nd h.ris h2)
def mVal (n : Int) (S : List (List Int)) (p : Int) : Int := max (max (mM n (halfM S p false)) (mM n (halfM S p true))) (1 + min (mM n (halfM S p false)) (mM n (halfM S p true)))
def dVal (n : Int) (S : List (List Int)) (p : Int) : Int := 1 + max (dM n (halfM S p false)) (dM n (halfM S p true))
theorem mM_ge {n : Int} {S : List (List Int)} {p : Int} (hp : p ∈ partM S n) : mVal n S p ≤ mM n S := by
  have a := part_mem.mp hp
  rw [mM_eq n S, if_neg (by omega)]
  exact le_maxL (List.mem_map.mpr ⟨p, hp, rfl⟩)
theorem mM_some {n : Int} {S : List (List Int)} (h : Val n S) (h2 : 2 ≤ S.length) : ∃ p, p ∈ partM S n ∧ mM n S = mVal n S p := by
  have ne : (partM S n).map (mVal n S) ≠ [] := fun z => part_ne h.nd h.ris h2 (List.map_eq_nil_iff.mp z)
  obtain ⟨p, hp, e⟩ := List.mem_map.mp (maxL_mem ne)
  refine ⟨p, hp, ?_⟩
  rw [mM_eq n S, if_neg (by omega)]
  exact e.symm
theorem dM_le {n : Int} {S : List (List Int)} {p : Int} (hp : p ∈ partM S n) : dM n S ≤ dVal n S p := by
  have a := part_mem.mp hp
  rw [dM_eq n S, if_neg (by omega)]
  exact minL_le (List.mem_map.mpr ⟨p, hp, rfl⟩)
theorem dM_some {n : Int} {S : List (List Int)} (h : Val n S) (h2 : 2 ≤ S.length) : ∃ p, p ∈ partM S n ∧ dM n S = dVal n S p := by
  have ne : (partM S n).map (dVal n S) ≠ [] := fun z => part_ne h.nd h.ris h2 (List.map_eq_nil_iff.mp z)
  obtain ⟨p, hp, e⟩ := List.mem_map.mp (minL_mem ne)
  refine ⟨p, hp, ?_⟩
  rw [dM_eq n S, if_neg (by omega)]
  exact e.symm
theorem m_small {n : Int} {S : List (List Int)} (h : S.length < 2) : mM n S = (S.length : Int) - 1 := by rw [mM_eq, if_pos h]
theorem d_small {n : Int} {S : List (List Int)} (h : S.length < 2) : dM n S = 0 := by rw [dM_eq, if_pos h]
theorem m_lo {n : Int} : ∀ (k : Nat) (S : List (List Int)), S.length ≤ k → Val n S → 0 < S.length → 0 ≤ mM n S
  | 0, S, hk, _, h0 => by omega
  | k + 1, S, hk, h, h0 => by
    by_cases h2 : S.length < 2
    · rw [m_small h2]; omega
    · obtain ⟨p, hp⟩ := part_some h (by omega)
      have a := part_lt hp false
      have b := part_lt hp true
      have ia := m_lo k _ (by omega) (h.half p false) a.2
      have := mM_ge hp
      unfold mVal at this
      omega
theorem pow_step {a : Int} (h : 0 ≤ a) : 2 ^ (1 + a).toNat = 2 * 2 ^ a.toNat := by
  rw [show (1 + a).toNat = a.toNat + 1 by omega, Nat.pow_succ, Nat.mul_comm]
theorem pow_mono {a b : Int} (h : a ≤ b) : 2 ^ a.toNat ≤ 2 ^ b.toNat := Nat.pow_le_pow_right (by decide) (by omega)
theorem m_pow {n : Int} : ∀ (k : Nat) (S : List (List Int)), S.length ≤ k → Val n S → 0 < S.length → 2 ^ (mM n S).toNat ≤ S.length
  | 0, S, hk, _, h0 => by omega
  | k + 1, S, hk, h, h0 => by
    by_cases h2 : S.length < 2
    · rw [m_small h2]
      have : S.length = 1 := by omega
      rw [this]
      decide
    · obtain ⟨p, hp, e⟩ := mM_some h (by omega)
      have a := part_lt hp false
      have b := part_lt hp true
      have hs := half_sum S p
      have ia := m_pow k _ (by omega) (h.half p false) a.2
      have ib := m_pow k _ (by omega) (h.half p true) b.2
      have la := m_lo (n := n) k _ (by omega) (h.half p false) a.2
      have lb := m_lo (n := n) k _ (by omega) (h.half p true) b.2
      rw [e]
      unfold mVal
      generalize mM n (halfM S p false) = x at *
      generalize mM n (halfM S p true) = y at *
      have c1 : 2 ^ (1 + min x y).toNat ≤ S.length := by
        rw [pow_step (by omega)]
        have e1 := pow_mono (a := min x y) (b := x) (by omega)
        have e2 := pow_mono (a := min x y) (b := y) (by omega)
        omega
      rcases Int.le_total (max x y) (1 + min x y) with q | q
      · rw [show max (max x y) (1 + min x y) = 1 + min x y by omega]
        exact c1
      · rw [show max (max x y) (1 + min x y) = max x y by omega]
        rcases Int.le_total x y with r | r
        · rw [show max x y = y by omega]; omega
        · rw [show max x y = x by omega]; omega
theorem d_pow {n : Int} : ∀ (k : Nat) (S : List (List Int)), S.length ≤ k → Val n S → 0 ≤ dM n S ∧ S.length ≤ 2 ^ (dM n S).toNat
  | 0, S, hk, _ => by
    rw [d_small (by omega)]
    exact ⟨by decide, by show S.length ≤ 1; omega⟩
  | k + 1, S, hk, h => by
    by_cases h2 : S.length < 2
    · rw [d_small h2]
      exact ⟨by decide, by show S.length ≤ 1; omega⟩
    · obtain ⟨p, hp, e⟩ := dM_some h (by omega)
      have a := part_lt hp false
      have b := part_lt hp true
      have hs := half_sum S p
      have ia := d_pow k _ (by omega) (h.half p false)
      have ib := d_pow k _ (by omega) (h.half p true)
      rw [e]
      unfold dVal
      generalize dM n (halfM S p false) = x at *
      generalize dM n (halfM S p true) = y at *
      refine ⟨by omega, ?_⟩
      rw [pow_step (by omega)]
      have e1 := pow_mono (a := x) (b := max x y) (by omega)
      have e2 := pow_mono (a := y) (b := max x y) (by omega)
      omega
theorem d_le {n : Int} : ∀ (k : Nat) (S : List (List Int)), S.length ≤ k → Val n S → 0 < S.length → dM n S ≤ (S.length : Int) - 1
  | 0, S, hk, _, h0 => by omega
  | k + 1, S, hk, h, h0 => by
    by_cases h2 : S.length < 2
    · rw [d_small h2]; omega
    · obtain ⟨p, hp⟩ := part_some h (by omega)
      have a := part_lt hp false
      have b := part_lt hp true
      have ia := d_le k _ (by omega) (h.half p false) a.2
      have ib := d_le k _ (by omega) (h.half p true) b.2
      have := dM_le hp
      unfold dVal at this
      omega
theorem pow_le_pow {a b : Int} (ha : 0 ≤ a) (hb : 0 ≤ b) (h : 2 ^ a.toNat ≤ 2 ^ b.toNat) : a ≤ b := by
  have := (Nat.pow_le_pow_iff_right (a := 2) (by decide)).mp h
  omega
theorem m_le_d {n : Int} {S : List (List Int)} (h : Val n S) (h0 : 0 < S.length) : mM n S ≤ dM n S := by
  have a := m_pow (n := n) _ S (Nat.le_refl _) h h0
  have b := d_pow (n := n) _ S (Nat.le_refl _) h
  exact pow_le_pow (m_lo _ S (Nat.le_refl _) h h0) b.1 (Nat.le_trans a b.2)
theorem trc_cons (x : Int) (P f : List Int) : trc (x :: P) f = if memB x f = true then x :: trc P f else trc P f := by
  unfold trc
  rw [List.filter_cons]
theorem d_tell {n : Int} : ∀ (P : List Int) (S : List (List Int)), (∀ x ∈ P, 0 ≤ x ∧ x < n) → Val n S → (∀ f ∈ S, ∀ g ∈ S, trc P f = trc P g → f = g) → dM n S ≤ (P.length : Int)
  | [], S, _, h, hi => by
    have : S.length < 2 := by
      match S, h, hi with
      | [], _, _ => simp
      | [_], _, _ => simp
      | f :: g :: S, h, hi =>
        have := hi f (by simp) g (by simp) rfl
        subst this
        have := h.nd
        simp at this
    rw [d_small this]
    simp
  | x :: P, S, hP, h, hi => by
    have hx := hP x (by simp)
    have hP' : ∀ y ∈ P, 0 ≤ y ∧ y < n := fun y hy => hP y (List.mem_cons_of_mem _ hy)
    have sub : ∀ b, ∀ f ∈ halfM S x b, ∀ g ∈ halfM S x b, trc P f = trc P g → f = g := fun b f hf g hg e => by
      obtain ⟨f1, f2⟩ := half_mem.mp hf
      obtain ⟨g1, g2⟩ := half_mem.mp hg
      refine hi f f1 g g1 ?_
      rw [trc_cons, trc_cons, f2, g2, e]
    have ia := d_tell P _ hP' (h.half x false) (sub false)
    have ib := d_tell P _ hP' (h.half x true) (sub true)
    rw [List.length_cons]
    by_cases hp : x ∈ partM S n
    · have := dM_le hp
      unfold dVal at this
      omega
    · have hs := half_sum S x
      have hno : (halfM S x true).length = 0 ∨ (halfM S x true).length = S.length := by
        refine Classical.byContradiction fun z => hp (part_mem.mpr ⟨hx, ?_, ?_⟩) <;> omega
      have full : ∃ b, halfM S x b = S := by
        rcases hno with z | z
        · exact ⟨false, (half_sub S x false).eq_of_length (by omega)⟩
        · exact ⟨true, (half_sub S x true).eq_of_length z⟩
      obtain ⟨b, hb⟩ := full
      cases b
      · rw [hb] at ia; omega
      · rw [hb] at ib; omega
def Shat (S : List (List Int)) (P : List Int) : Prop := ∀ Q ∈ subsL P, ∃ f ∈ S, trc P f = Q
theorem sub_of_subsL {α : Type} : ∀ {l S : List α}, S ∈ subsL l → S.Sublist l
  | [], S, h => by
    have : S = [] := by simpa [subsL] using h
    subst this
    exact .slnil
  | a :: l, S, h => by
    unfold subsL at h
    rcases List.mem_append.mp h with h | h
    · exact (sub_of_subsL h).cons a
    · obtain ⟨T, hT, rfl⟩ := List.mem_map.mp h
      exact (sub_of_subsL hT).cons_cons a
theorem shat_half {S : List (List Int)} {x : Int} {P : List Int} (hn : x ∉ P) (h : Shat S (x :: P)) (b : Bool) : Shat (halfM S x b) P := fun Q hQ => by
  cases b with
  | true =>
    obtain ⟨f, hf, e⟩ := h (x :: Q) (by unfold subsL; exact List.mem_append.mpr (.inr (List.mem_map.mpr ⟨Q, hQ, rfl⟩)))
    rw [trc_cons] at e
    by_cases m : memB x f = true
    · rw [if_pos m] at e
      exact ⟨f, half_mem.mpr ⟨hf, m⟩, (List.cons.inj e).2⟩
    · rw [if_neg m] at e
      exfalso
      have : x ∈ trc P f := by rw [e]; simp
      exact hn (List.mem_filter.mp this).1
  | false =>
    obtain ⟨f, hf, e⟩ := h Q (by unfold subsL; exact List.mem_append.mpr (.inl hQ))
    rw [trc_cons] at e
    by_cases m : memB x f = true
    · rw [if_pos m] at e
      exfalso
      have : x ∈ Q := by rw [← e]; simp
      exact hn ((sub_of_subsL hQ).mem this)
    · rw [if_neg m] at e
      exact ⟨f, half_mem.mpr ⟨hf, by simpa using m⟩, e⟩
theorem shat_pos {S : List (List Int)} {P : List Int} (h : Shat S P) : 0 < S.length := by
  obtain ⟨f, hf, _⟩ := h P (mem_subsL (List.Sublist.refl P))
  exact List.length_pos_of_mem hf
theorem m_shat {n : Int} : ∀ (P : List Int) (S : List (List Int)), P.Nodup → (∀ x ∈ P, 0 ≤ x ∧ x < n) → Val n S → Shat S P → (P.length : Int) ≤ mM n S
  | [], S, _, _, h, hs => m_lo _ S (Nat.le_refl _) h (shat_pos hs)
  | x :: P, S, hn, hP, h, hs => by
    rw [List.nodup_cons] at hn
    have hP' : ∀ y ∈ P, 0 ≤ y ∧ y < n := fun y hy => hP y (List.mem_cons_of_mem _ hy)
    have sa := shat_half hn.1 hs false
    have sb := shat_half hn.1 hs true
    have ia := m_shat P _ hn.2 hP' (h.half x false) sa
    have ib := m_shat P _ hn.2 hP' (h.half x true) sb
    have pa := shat_pos sa
    have pb := shat_pos sb
    have hsum := half_sum S x
    have hp : x ∈ partM S n := part_mem.mpr ⟨hP x (by simp), by omega, by omega⟩
    have := mM_ge hp
    unfold mVal at this
    rw [List.length_cons]
    omega
theorem shat_full {S : List (List Int)} {P : List Int} (h : fullB S P = true) : Shat S P := fun Q hQ => by
  have hc : ((cutM S P).length : Int) = (1 : Int) * 2 ^ ((P.length : Int)).toNat := of_decide_eq_true h
  have hsub : cutM S P ⊆ subsL P := fun y hy => by
    obtain ⟨o, _, rfl⟩ := cut_mem.mp hy
    exact mem_subsL List.filter_sublist
  have hl : (cutM S P).length = (subsL P).length := by
    rw [subsL_len]
    have e : (1 : Int) * 2 ^ ((P.length : Int)).toNat = ((2 ^ P.length : Nat) : Int) := by
      rw [Int.one_mul, Int.toNat_natCast, Int.natCast_pow]
      rfl
    omega
  have hm : Q ∈ cutM S P := by
    refine Classical.byContradiction fun no => ?_
    have := (List.nodup_cons.mpr ⟨no, cut_nd S P⟩).length_le_of_subset (l₂ := subsL P) (fun y hy => by
      rcases List.mem_cons.mp hy with rfl | hy
      · exact hQ
      · exact hsub hy)
    rw [List.length_cons] at this
    omega
  obtain ⟨o, ho, e⟩ := cut_mem.mp hm
  exact ⟨o, ho, e.symm⟩
theorem tell_inj {S : List (List Int)} {P : List Int} (hn : S.Nodup) (h : tellB S P = true) : ∀ f ∈ S, ∀ g ∈ S, trc P f = trc P g → f = g := fun f hf g hg e => by
  obtain ⟨i, hi⟩ := List.getElem?_of_mem hf
  obtain ⟨j, hj⟩ := List.getElem?_of_mem hg
  have hjl := lt_of_get hj
  have ha := alone_of_tell (c := (j : Int)) (by omega) (by omega) h
  rw [alone_iff (by omega) (by omega)] at ha
  have hgj : getL S (j : Int) = g := by
    have := getL_get (sets := S) (c := (j : Int)) (by omega) (by omega)
    rw [Int.toNat_natCast, hj] at this
    exact (Option.some.inj this).symm
  by_cases z : i = j
  · subst z
    rw [hi] at hj
    exact Option.some.inj hj
  · exact absurd (by rw [hgj]; exact e) (ha i f (by rw [Int.toNat_natCast]; exact z) hi)
theorem Fam.val {P M : Int} {F : Int × List (List Int)} (h : Fam P M F) : Val F.1 F.2 := ⟨h.nd, h.ris⟩
theorem d_le_few {P M : Int} {F : Int × List (List Int)} (h : Fam P M F) (hP : P ≤ 8) : dM F.1 F.2 ≤ ((fewM F).length : Int) := by
  obtain ⟨_, a, b⟩ := few_ok h hP
  have h1 := h.n1
  exact d_tell _ _ (lists_ris (by omega) a).2 h.val (tell_inj h.nd b)
theorem gcut_le_m {P M : Int} {F : Int × List (List Int)} (h : Fam P M F) (hP : P ≤ 8) : maxL (((listsM F.1).filter (fullB F.2)).map fun p => (p.length : Int)) ≤ mM F.1 F.2 := by
  have h1 := h.n1
  have h2 := h.n2
  have ne : ((listsM F.1).filter (fullB F.2)).map (fun p => (p.length : Int)) ≠ [] := by
    intro z
    have hm : ([] : List Int) ∈ (listsM F.1).filter (fullB F.2) := List.mem_filter.mpr ⟨nil_lists ⟨by omega, by omega⟩, full_nil h.ne⟩
    have := List.mem_map_of_mem (f := fun (p : List Int) => (p.length : Int)) hm
    rw [z] at this
    cases this
  obtain ⟨p, hp, e⟩ := List.mem_map.mp (maxL_mem ne)
  obtain ⟨hp1, hp2⟩ := List.mem_filter.mp hp
  have hr := lists_ris (n := F.1) (by omega) hp1
  have := m_shat p F.2 (hr.1.imp fun hlt => by omega) hr.2 h.val (shat_full hp2)
  omega
/-- the least power -/
theorem wpow {many : Int} : ∀ (k : Nat) (p d : Int), 0 ≤ p → p ≤ d → many ≤ (1 : Int) * 2 ^ d.toNat → d - p ≤ (k : Int) →
    let r := wEnd (fun s => decide ((1 : Int) * 2 ^ s.toNat < many)) (fun s => s + 1) k p
    decide ((1 : Int) * 2 ^ r.toNat < many) = false ∧ r ≤ d
  | 0, p, d, h0, h1, h2, h3 => by
    have : p = d := by omega
    subst this
    exact ⟨(decide_eq_false (by omega) : decide ((1 : Int) * 2 ^ p.toNat < many) = false), (Int.le_refl p : p ≤ p)⟩
  | k + 1, p, d, h0, h1, h2, h3 => by
    show decide ((1 : Int) * 2 ^ (if decide ((1 : Int) * 2 ^ p.toNat < many) = true then wEnd (fun s => decide ((1 : Int) * 2 ^ s.toNat < many)) (fun s => s + 1) k (p + 1) else p).toNat < many) = false ∧ (if decide ((1 : Int) * 2 ^ p.toNat < many) = true then wEnd (fun s => decide ((1 : Int) * 2 ^ s.toNat < many)) (fun s => s + 1) k (p + 1) else p) ≤ d
    by_cases hc : (1 : Int) * 2 ^ p.toNat < many
    · rw [if_pos (decide_eq_true hc)]
      have hne : p ≠ d := by
        intro z
        subst z
        omega
      exact wpow k (p + 1) d (by omega) (by omega) h2 (by omega)
    · rw [if_neg (by simpa using hc)]
      exact ⟨decide_eq_false hc, h1⟩
end Zk

namespace Zk
open PySem PySem.Spec PyProof.Rows L2
section
variable {X : Cx} {b : Bs} {N : List Str} {sc : Scope} {mg : Str → Option Value} {W : Str → Bool} {Γ Γ' : List En} {k rl : Bool} {lv la lb : Lv} {pos pos' : Pos} {e e1 e2 : Expr}
variable {α β γ : Type} [ia : Py α] [ib : Py β] {p : α}
/-- x.extend(ys), ys new -/
theorem xs_ext {x : Str} {j : Nat} {xs ys : List α} {apos cpos p1 : Pos} (cf : Cf X N sc mg W) (hN : N[j]? = some x) (hv : Vis sc x) (hΓ : Γ[j]? = some (.res (ownR α k xs))) (he : XE X b e Γ (.st true) ys) (hz : xs.length + ys.length ≤ 1000000) (hd : (x == ("__debug__" : Str)) = false := by decide) (hcd : (x == ("__classdict__" : Str)) = false := by decide)
    (hbase : attributeBase (.Name x p1) "extend" X.env (eval (.Name x p1) X.env) = eval (.Name x p1) X.env := by rfl)
    (hfew : ((backTo cpos (starEach [e] X.env)).all (fun x => !x.1) && (backToKw cpos (keywordEach [] X.env)).all (fun x => x.1.isSome) && decide (([e] : List Expr).length + ([] : List Keyword).length + (if ([] : List Keyword).isEmpty then 0 else 1) < 30)) = true := by rfl)
    (hline : (apos.endLine == cpos.line) = true := by rfl) (hs : starEach [e] X.env = [(false, eval e X.env)] := by rfl) (hsw : swapsWith (.Call (.Attribute (.Name x p1) "extend" apos) [e] [] cpos) none pos.line X.env = pure false := by rfl) :
    XS X b rl (.Expr (.Call (.Attribute (.Name x p1) "extend" apos) [e] [] cpos) pos) Γ (none : Option β) (Γ.set j (.res (ownR α k (xs ++ ys)))) := by
  refine PS.wk (ps_expr (pe_bm PySem.F.plainAttrs_list PySem.F.slot_list_extend PySem.F.type_list_extend mt_extend (pe_var (i := j) (by rw [cf.hN]; exact hN) (by rw [cf.hs]; exact hv) hd hcd) (xa_cons he xa_nil hs) hbase hfew hline hs) hsw) fun D σ H ⟨F, ok, kk⟩ => ?_
  obtain ⟨v, A, hσ, ⟨l, vs, rfl, hA, hl, hz', d⟩, hAl, _⟩ := ok.mut hΓ
  refine ⟨_, hσ, .inl ⟨rfl, vs, .inl (.inl hl)⟩, F, ok, fun ws F1 H1 g1 d1 => ?_⟩
  obtain ⟨y, rfl, d1'⟩ := dql1 d1
  have ok1 := ok.gr g1
  obtain ⟨v', A', hσ', ⟨l', vs', rfl, hA', hl', hz2, d2⟩, hAl', mu⟩ := ok1.mut hΓ
  rw [hσ] at hσ'
  cases hσ'
  obtain ⟨b2, zs, rfl, hq, hz3, hall⟩ := dp_lst d1'
  have hb2 := rd_new hq
  have hF2 : F1 b2 = some (.lst zs) := sel2_le true _ _ hb2
  have l1 : vs'.length = xs.length := by rw [dqa_len d2, List.length_map]
  have l2 : zs.length = ys.length := by rw [dqa_len hall, List.length_map]
  refine ⟨l, b2, vs', zs, rfl, rfl, hl', ok1.fr.h _ _ hF2, Nat.le_trans (by omega) (show 1000000 ≤ sizeLine by decide), kk _ F1 _ g1.f (mu _ _ (fun m hm => upd_ne fun z => hm ((hA' m).mpr z)) (fun m hm => ?_) ⟨l, vs' ++ zs, rfl, hA', upd_same, ?_, ?_⟩)⟩
  · rw [(hA' m).mp hm, upd_same]; exact fun z => by cases z
  · rw [List.length_append]; exact Nat.le_trans (by omega) (show 1000000 ≤ sizeLine by decide)
  · rw [List.map_append]
    refine dqa_app d2 ?_
    cases k with
    | true => exact hall
    | false => exact dqa_mo (sel2_le true) _ _ hall
/-- x.insert(i, e) -/
theorem xs_ins {x : Str} {j : Nat} {xs : List α} {i : Int} {apos cpos p1 : Pos} (cf : Cf X N sc mg W) (hN : N[j]? = some x) (hv : Vis sc x) (hΓ : Γ[j]? = some (.res (ownR α k xs))) (hi : XE X b e1 Γ la i) (he : XE X b e Γ (.st k) p) (hz : xs.length < 1000000 ∧ 0 ≤ i ∧ i < 1000000) (hd : (x == ("__debug__" : Str)) = false := by decide) (hcd : (x == ("__classdict__" : Str)) = false := by decide)
    (hbase : attributeBase (.Name x p1) "insert" X.env (eval (.Name x p1) X.env) = eval (.Name x p1) X.env := by rfl)
    (hfew : ((backTo cpos (starEach [e1, e] X.env)).all (fun x => !x.1) && (backToKw cpos (keywordEach [] X.env)).all (fun x => x.1.isSome) && decide (([e1, e] : List Expr).length + ([] : List Keyword).length + (if ([] : List Keyword).isEmpty then 0 else 1) < 30)) = true := by rfl)
    (hline : (apos.endLine == cpos.line) = true := by rfl) (hs : starEach [e1, e] X.env = (false, eval e1 X.env) :: starEach [e] X.env := by rfl) (hs2 : starEach [e] X.env = [(false, eval e X.env)] := by rfl) (hpl : (backTo cpos (starEach [e] X.env)).any (·.1) = false := by rfl) (hsw : swapsWith (.Call (.Attribute (.Name x p1) "insert" apos) [e1, e] [] cpos) none pos.line X.env = pure false := by rfl) :
    XS X b rl (.Expr (.Call (.Attribute (.Name x p1) "insert" apos) [e1, e] [] cpos) pos) Γ (none : Option β) (Γ.set j (.res (ownR α k (xs.take i.toNat ++ [p] ++ xs.drop i.toNat)))) := by
  refine PS.wk (ps_expr (pe_bm PySem.F.plainAttrs_list PySem.F.slot_list_insert PySem.F.type_list_insert mt_insert (pe_var (i := j) (by rw [cf.hN]; exact hN) (by rw [cf.hs]; exact hv) hd hcd) (xa_cons hi (xa_cons he xa_nil hs2) hs) hbase hfew hline hs hpl) hsw) fun D σ H ⟨F, ok, kk⟩ => ?_
  obtain ⟨v, A, hσ, ⟨l, vs, rfl, hA, hl, hz', d⟩, hAl, _⟩ := ok.mut hΓ
  refine ⟨_, hσ, .inl ⟨rfl, vs, .inl (.inl hl)⟩, F, ok, fun ws F1 H1 g1 d1 => ?_⟩
  obtain ⟨iv, y, rfl, di, d1'⟩ := dql2 d1
  have ei := dp_int di
  subst ei
  have ok1 := ok.gr g1
  obtain ⟨v', A', hσ', ⟨l', vs', rfl, hA', hl', hz2, d2⟩, hAl', mu⟩ := ok1.mut hΓ
  rw [hσ] at hσ'
  cases hσ'
  have l1 : vs'.length = xs.length := by rw [dqa_len d2, List.length_map]
  refine ⟨l, vs', i, y, rfl, rfl, hl', Nat.lt_of_lt_of_le (show vs'.length < 1000000 by omega) (by decide), hz.2.1, by omega, kk _ F1 _ g1.f (mu _ _ (fun m hm => upd_ne fun z => hm ((hA' m).mpr z)) (fun m hm => ?_) ⟨l, vs'.take i.toNat ++ [y] ++ vs'.drop i.toNat, rfl, hA', upd_same, ?_, ?_⟩)⟩
  · rw [(hA' m).mp hm, upd_same]; exact fun z => by cases z
  · refine Nat.le_trans ?_ (show 1000001 ≤ sizeLine by decide)
    simp only [List.length_append, List.length_take, List.length_drop, List.length_cons, List.length_nil]
    omega
  · rw [List.map_append, List.map_append, List.map_take, List.map_drop]
    exact dqa_app (dqa_app (dqa_take _ d2) (.cons d1' .nil)) (dqa_drop _ d2)
theorem xe_catS [Scal α] {xs ys : List α} (h1 : XE X b e1 Γ la xs) (h2 : XE X b e2 Γ lb ys) (hz : xs.length + ys.length ≤ 1000000) : XE X b (.BinOp e1 .Add e2 pos) Γ lv (xs ++ ys) :=
  xe_op op_catS h1 h2 fun F H v w Q fz d1 d2 k => by
    obtain ⟨a, vs, rfl, hq, hzz, hall⟩ := dp_lst d1
    obtain ⟨a2, vs2, rfl, hq2, hzz2, hall2⟩ := dp_lst d2
    have l1 : vs.length = xs.length := by rw [dqa_len hall, List.length_map]
    have l2 : vs2.length = ys.length := by rw [dqa_len hall2, List.length_map]
    refine ⟨a, a2, vs, vs2, rfl, rfl, (sel_le fz.h _).rd hq, (sel_le fz.h _).rd hq2, Nat.le_trans (by omega) (show 1000000 ≤ sizeLine by decide), fun p hp => ?_⟩
    refine new_lst (ds := (xs ++ ys).map Py.enc) fz ?_ (by rw [List.length_append]; exact Nat.le_trans (by omega) (show 1000000 ≤ sizeLine by decide)) hp k
    rw [List.map_append]
    exact dqa_app (dqa_sc _ _ hall) (dqa_sc _ _ hall2)
end
end Zk

namespace Zk
open PySem PySem.Spec PyProof.Rows L2
def stepN (m n c : Int) : Nat := (Builtin.Range.rangeSize m n c).toNat
/-- lo, lo + c, .. -/
def rgc (lo c : Int) (n : Nat) : List Int := (List.range n).map fun (i : Nat) => lo + (i : Int) * c
theorem rgc_len (lo c : Int) (n : Nat) : (rgc lo c n).length = n := by unfold rgc; simp
section
variable {X : Cx} {b : Bs} {N : List Str} {sc : Scope} {mg : Str → Option Value} {W : Str → Bool} {Γ : List En} {k : Bool} {pos pp : Pos} {e1 e2 e3 tg : Expr} {la lb lc : Lv}
theorem rgc_at {lo c : Int} {n i : Nat} {d : PyData} (h : ((rgc lo c n).map Py.enc)[i]? = some d) : i < n ∧ d = .int (lo + i * c) := by
  unfold rgc at h
  rw [List.map_map, List.getElem?_map] at h
  by_cases hi : i < n
  · rw [List.getElem?_range hi] at h
    cases h
    exact ⟨hi, rfl⟩
  · rw [List.getElem?_eq_none (by simpa using hi)] at h
    cases h
theorem jok_rgc {F' : Hp} {lo c : Int} {n : Nat} : JOk b k (Itc lo c n) F' ((rgc lo c n).map Py.enc) := by
  refine ⟨fun i d F H hd e fz => (rgc_at hd).1, fun i d F H x H' hd e fz hy => ?_, fun i F H hi e fz => ?_⟩
  · obtain ⟨rfl, rfl⟩ := hy
    obtain ⟨_, rfl⟩ := rgc_at hd
    exact ⟨F, Grow.rf fz.h, .int _⟩
  · rw [List.length_map, rgc_len] at hi
    exact hi
theorem xi_range3 {m n c : Int} {q : Nat} (cf : Cf X N sc mg W) (h1 : XE X b e1 Γ la m) (h2 : XE X b e2 Γ lb n) (h3 : XE X b e3 Γ lc c) (hr : RgC m n c q) (hz : q ≤ 1000000) (hg : sc.names.lookup ("range" : Str) = some .globalImplicit) (hm : mg "range" = none) (hs : starEach [e1, e2, e3] X.env = (false, eval e1 X.env) :: starEach [e2, e3] X.env := by rfl) (hs2 : starEach [e2, e3] X.env = (false, eval e2 X.env) :: starEach [e3] X.env := by rfl) (hs3 : starEach [e3] X.env = [(false, eval e3 X.env)] := by rfl) (hpl : (backTo pos (starEach [e2, e3] X.env)).any (·.1) = false := by rfl) :
    XI X b tg (.Call (.Name "range" pp) [e1, e2, e3] [] pos) Γ k (rgc m c q) :=
  PI.wk (pi_range3 (show X.env.scope.names.lookup _ = _ by rw [cf.hs]; exact hg) (by rw [cf.hm]; exact hm) (xa_cons h1 (xa_cons h2 (xa_cons h3 xa_nil hs3) hs2) hs) hs hpl) fun σ H R ⟨F, ok, kk⟩ => ⟨F, ok, fun vs F' H' g d => by
    obtain ⟨v, w, u, rfl, d1, d2, d3⟩ := dql3 d
    exact ⟨m, n, c, q, by rw [dp_int d1, dp_int d2, dp_int d3], hr, kk F' H' _ g jok_rgc (by rw [List.length_map, rgc_len]; exact Nat.le_trans hz (by decide))⟩⟩
end
section
variable {X : Cx} {b : Bs} {Γ : List En} {rl c : Bool} {pos : Pos} {t : Expr} {body els : List Stmt} {S β : Type} [Py β] {o1 o2 : Option β} {Γs : S → List En} {s1 s2 : S}
/-- an if at a block's end, each way may hand back -/
theorem xb_ifg (ht : XT X b t Γ c) (h1 : c = true → XB X b rl body Γ o1 (Γs s1)) (h2 : c = false → XB X b rl els Γ o2 (Γs s2)) : XB X b rl [.If t body els pos] Γ (cond c o1 o2) (Γs (cond c s1 s2)) := by
  cases c with
  | true => exact pss_one (PS.wk (ps_if ht (h1 rfl) pss_never) fun D σ H ⟨F, ok, kk⟩ => ⟨F, ok, fun F' H' g => iteT ⟨F', ok.gr g, tS_end kk g.f⟩⟩)
  | false => exact pss_one (PS.wk (ps_if ht pss_never (h2 rfl)) fun D σ H ⟨F, ok, kk⟩ => ⟨F, ok, fun F' H' g => iteF ⟨F', ok.gr g, tS_end kk g.f⟩⟩)
end
end Zk

namespace Zk
open PySem PySem.Spec PyProof.Rows L2

/-! ### fewer sets -/
theorem half_inc {S T : List (List Int)} (h : ∀ f ∈ S, f ∈ T) (p : Int) (b : Bool) : ∀ f ∈ halfM S p b, f ∈ halfM T p b := fun f hf => by
  obtain ⟨a, c⟩ := half_mem.mp hf
  exact half_mem.mpr ⟨h f a, c⟩
theorem inc_len {S T : List (List Int)} (hn : S.Nodup) (h : ∀ f ∈ S, f ∈ T) : S.length ≤ T.length := hn.length_le_of_subset h
theorem half_pos {S T : List (List Int)} (h : ∀ f ∈ S, f ∈ T) {p : Int} {b : Bool} (h0 : 0 < (halfM S p b).length) : 0 < (halfM T p b).length := by
  obtain ⟨f, hf⟩ := List.exists_mem_of_length_pos h0
  exact List.length_pos_of_mem (half_inc h p b f hf)
theorem part_inc {n p : Int} {S T : List (List Int)} (h : ∀ f ∈ S, f ∈ T) (hp : p ∈ partM S n) : p ∈ partM T n := by
  have a := part_mem.mp hp
  have b := half_pos h (part_lt hp false).2
  have c := half_pos h (part_lt hp true).2
  have d := half_sum T p
  exact part_mem.mpr ⟨a.1, c, by omega⟩
theorem m_mono {n : Int} : ∀ (k : Nat) (S T : List (List Int)), S.length ≤ k → Val n S → Val n T → (∀ f ∈ S, f ∈ T) → 0 < S.length → mM n S ≤ mM n T
  | 0, S, T, hk, _, _, _, h0 => by omega
  | k + 1, S, T, hk, hS, hT, h, h0 => by
    have hl := inc_len hS.nd h
    by_cases h2 : S.length < 2
    · rw [m_small h2]
      have := m_lo _ T (Nat.le_refl _) hT (by omega)
      omega
    · obtain ⟨p, hp, e⟩ := mM_some hS (by omega)
      have a := part_lt hp false
      have b := part_lt hp true
      have ia := m_mono k _ _ (by omega) (hS.half p false) (hT.half p false) (half_inc h p false) a.2
      have ib := m_mono k _ _ (by omega) (hS.half p true) (hT.half p true) (half_inc h p true) b.2
      have := mM_ge (part_inc h hp)
      rw [e]
      unfold mVal at *
      omega
theorem d_mono {n : Int} : ∀ (k : Nat) (S T : List (List Int)), T.length ≤ k → Val n S → Val n T → (∀ f ∈ S, f ∈ T) → dM n S ≤ dM n T
  | 0, S, T, hk, hS, hT, h => by
    have hl := inc_len hS.nd h
    rw [d_small (by omega), d_small (by omega)]
    exact Int.le_refl _
  | k + 1, S, T, hk, hS, hT, h => by
    have hl := inc_len hS.nd h
    by_cases h2 : S.length < 2
    · rw [d_small h2]
      exact (d_pow _ T (Nat.le_refl _) hT).1
    · obtain ⟨p, hp, e⟩ := dM_some hT (by omega)
      have a := part_lt hp false
      have b := part_lt hp true
      have ia := d_mono k _ _ (by omega) (hS.half p false) (hT.half p false) (half_inc h p false)
      have ib := d_mono k _ _ (by omega) (hS.half p true) (hT.half p true) (half_inc h p true)
      rw [e]
      by_cases q : p ∈ partM S n
      · have := dM_le q
        unfold dVal at *
        omega
      · have hs := half_sum S p
        have hp' := (part_mem.mp hp).1
        have hno : (halfM S p true).length = 0 ∨ (halfM S p true).length = S.length := by
          refine Classical.byContradiction fun z => q (part_mem.mpr ⟨hp', ?_, ?_⟩) <;> omega
        have full : ∃ c, halfM S p c = S := by
          rcases hno with z | z
          · exact ⟨false, (half_sub S p false).eq_of_length (by omega)⟩
          · exact ⟨true, (half_sub S p true).eq_of_length z⟩
        obtain ⟨c, hc⟩ := full
        unfold dVal
        cases c
        · rw [hc] at ia; omega
        · rw [hc] at ib; omega
/-- one set more -/
theorem more_half {S T : List (List Int)} {x : List Int} (h : ∀ f, f ∈ T ↔ f = x ∨ f ∈ S) (p : Int) (b : Bool) : if memB p x = b then (∀ f, f ∈ halfM T p b ↔ f = x ∨ f ∈ halfM S p b) else (∀ f, f ∈ halfM T p b ↔ f ∈ halfM S p b) := by
  by_cases q : memB p x = b
  · rw [if_pos q]
    intro f
    rw [half_mem, half_mem, h]
    constructor
    · rintro ⟨rfl | a, c⟩
      · exact .inl rfl
      · exact .inr ⟨a, c⟩
    · rintro (rfl | ⟨a, c⟩)
      · exact ⟨.inl rfl, q⟩
      · exact ⟨.inr a, c⟩
  · rw [if_neg q]
    intro f
    rw [half_mem, half_mem, h]
    constructor
    · rintro ⟨rfl | a, c⟩
      · exact absurd c q
      · exact ⟨a, c⟩
    · rintro ⟨a, c⟩
      exact ⟨.inr a, c⟩
theorem m_same {n : Int} {S T : List (List Int)} (hS : Val n S) (hT : Val n T) (h : ∀ f, f ∈ T ↔ f ∈ S) : mM n T = mM n S := by
  have l1 := inc_len hS.nd fun f hf => (h f).mpr hf
  have l2 := inc_len hT.nd fun f hf => (h f).mp hf
  by_cases h0 : 0 < S.length
  · have a := m_mono (n := n) _ S T (Nat.le_refl _) hS hT (fun f hf => (h f).mpr hf) h0
    have b := m_mono (n := n) _ T S (Nat.le_refl _) hT hS (fun f hf => (h f).mp hf) (by omega)
    omega
  · rw [m_small (by omega), m_small (by omega)]
    omega
theorem d_same {n : Int} {S T : List (List Int)} (hS : Val n S) (hT : Val n T) (h : ∀ f, f ∈ T ↔ f ∈ S) : dM n T = dM n S := by
  have a := d_mono (n := n) _ S T (Nat.le_refl _) hS hT (fun f hf => (h f).mpr hf)
  have b := d_mono (n := n) _ T S (Nat.le_refl _) hT hS (fun f hf => (h f).mp hf)
  omega
theorem more_len {S T : List (List Int)} {x : List Int} (hS : S.Nodup) (hT : T.Nodup) (hx : x ∉ S) (h : ∀ f, f ∈ T ↔ f = x ∨ f ∈ S) : T.length = S.length + 1 := by
  have p : T.Perm (x :: S) := (List.perm_ext_iff_of_nodup hT (List.nodup_cons.mpr ⟨hx, hS⟩)).mpr fun f => by rw [h f, List.mem_cons]
  rw [p.length_eq, List.length_cons]
theorem m_more {n : Int} : ∀ (k : Nat) (S T : List (List Int)) (x : List Int), T.length ≤ k → Val n S → Val n T → x ∉ S → (∀ f, f ∈ T ↔ f = x ∨ f ∈ S) → mM n T ≤ mM n S + 1
  | 0, S, T, x, hk, hS, hT, hx, h => by
    have := more_len hS.nd hT.nd hx h
    omega
  | k + 1, S, T, x, hk, hS, hT, hx, h => by
    have hl := more_len hS.nd hT.nd hx h
    by_cases h2 : T.length < 2
    · rw [m_small h2, m_small (by omega)]
      omega
    · obtain ⟨p, hp, e⟩ := mM_some hT (by omega)
      have a := part_lt hp false
      have b := part_lt hp true
      have s0 := half_sum S p
      have xs : ∀ c, x ∉ halfM S p c := fun c hc => hx (half_mem.mp hc).1
      have key : ∀ c, memB p x = c → mM n (halfM T p c) ≤ mM n (halfM S p c) + 1 ∧ mM n (halfM T p (!c)) = mM n (halfM S p (!c)) ∧ 0 < (halfM S p (!c)).length := fun c hc => by
        have q := more_half h p c
        rw [if_pos hc] at q
        have r := more_half h p (!c)
        rw [if_neg (by rw [hc]; cases c <;> decide)] at r
        have tl := part_lt hp c
        have tr := part_lt hp (!c)
        refine ⟨m_more k _ _ x (by omega) (hS.half p c) (hT.half p c) (xs c) q, m_same (hS.half p _) (hT.half p _) r, ?_⟩
        have := inc_len (hT.half p (!c)).nd fun f hf => (r f).mp hf
        omega
      have hS0 : 0 < S.length := by omega
      rw [e]
      have fin : ∀ c, memB p x = c → mVal n T p ≤ mM n S + 1 := fun c hc => by
        obtain ⟨k1, k2, k3⟩ := key c hc
        have lo : 0 ≤ mM n (halfM S p (!c)) := m_lo _ _ (Nat.le_refl _) (hS.half p _) k3
        have up : mM n (halfM S p (!c)) ≤ mM n S := m_mono _ _ S (Nat.le_refl _) (hS.half p _) hS (fun f hf => (half_mem.mp hf).1) k3
        by_cases z : 0 < (halfM S p c).length
        · have hpS : p ∈ partM S n := part_mem.mpr ⟨(part_mem.mp hp).1, by cases c <;> simp at * <;> omega, by cases c <;> simp at * <;> omega⟩
          have := mM_ge hpS
          unfold mVal at *
          cases c <;> simp at * <;> omega
        · have hz : mM n (halfM S p c) = -1 := by
            rw [m_small (by omega)]
            omega
          unfold mVal
          cases c <;> simp at * <;> omega
      exact fin _ rfl
theorem d_more {n : Int} : ∀ (k : Nat) (S T : List (List Int)) (x : List Int), T.length ≤ k → Val n S → Val n T → x ∉ S → (∀ f, f ∈ T ↔ f = x ∨ f ∈ S) → dM n T ≤ dM n S + 1
  | 0, S, T, x, hk, hS, hT, hx, h => by
    have := more_len hS.nd hT.nd hx h
    omega
  | k + 1, S, T, x, hk, hS, hT, hx, h => by
    have hl := more_len hS.nd hT.nd hx h
    have d0 := (d_pow (n := n) _ S (Nat.le_refl _) hS).1
    by_cases h2 : S.length < 2
    · have := d_le (n := n) _ T (Nat.le_refl _) hT (by omega)
      omega
    · obtain ⟨p, hp, e⟩ := dM_some hS (by omega)
      have a := part_lt hp false
      have b := part_lt hp true
      have s0 := half_sum S p
      have t0 := half_sum T p
      have inc : ∀ f ∈ S, f ∈ T := fun f hf => (h f).mpr (.inr hf)
      have hpT := part_inc inc hp
      have ta := part_lt hpT false
      have tb := part_lt hpT true
      have xs : ∀ c, x ∉ halfM S p c := fun c hc => hx (half_mem.mp hc).1
      have key : ∀ c, memB p x = c → dM n (halfM T p c) ≤ dM n (halfM S p c) + 1 ∧ dM n (halfM T p (!c)) = dM n (halfM S p (!c)) := fun c hc => by
        have q := more_half h p c
        rw [if_pos hc] at q
        have r := more_half h p (!c)
        rw [if_neg (by rw [hc]; cases c <;> decide)] at r
        have tl := part_lt hpT c
        exact ⟨d_more k _ _ x (by omega) (hS.half p c) (hT.half p c) (xs c) q, d_same (hS.half p _) (hT.half p _) r⟩
      have := dM_le hpT
      rw [e]
      obtain ⟨k1, k2⟩ := key _ rfl
      unfold dVal at *
      cases hc : memB p x <;> rw [hc] at k1 k2 <;> simp at k1 k2 <;> omega
theorem subsL_nd {α : Type} : ∀ {l : List α}, l.Nodup → (subsL l).Nodup
  | [], _ => by simp [subsL]
  | a :: l, h => by
    rw [List.nodup_cons] at h
    have ih := subsL_nd h.2
    unfold subsL
    rw [List.nodup_append]
    refine ⟨ih, ?_, fun x hx y hy z => ?_⟩
    · exact List.pairwise_map.mpr (ih.imp fun hne z => hne (List.cons.inj z).2)
    · obtain ⟨t, _, rfl⟩ := List.mem_map.mp hy
      subst z
      exact h.1 ((sub_of_subsL hx).mem List.mem_cons_self)
theorem full_shat {S : List (List Int)} {P : List Int} (hP : P.Nodup) (h : Shat S P) : fullB S P = true := by
  have hsub : cutM S P ⊆ subsL P := fun y hy => by
    obtain ⟨o, _, rfl⟩ := cut_mem.mp hy
    exact mem_subsL List.filter_sublist
  have hsup : subsL P ⊆ cutM S P := fun y hy => by
    obtain ⟨f, hf, e⟩ := h y hy
    exact cut_mem.mpr ⟨f, hf, e.symm⟩
  have a := (cut_nd S P).length_le_of_subset hsub
  have b := (subsL_nd hP).length_le_of_subset hsup
  rw [subsL_len] at a b
  have e : (1 : Int) * 2 ^ ((P.length : Int)).toNat = ((2 ^ P.length : Nat) : Int) := by
    rw [Int.one_mul, Int.toNat_natCast, Int.natCast_pow]
    rfl
  exact decide_eq_true (by omega)
theorem full_mono {S T : List (List Int)} {P : List Int} (hP : P.Nodup) (h : ∀ f ∈ S, f ∈ T) (hf : fullB S P = true) : fullB T P = true := full_shat hP fun Q hQ => by
  obtain ⟨f, hf, e⟩ := shat_full hf Q hQ
  exact ⟨f, h f hf, e⟩
theorem maxL_sub {xs ys : List Int} (h : ∀ x ∈ xs, x ∈ ys) (h0 : xs ≠ []) : maxL xs ≤ maxL ys := le_maxL (h _ (maxL_mem h0))
theorem inj_tell {S : List (List Int)} {P : List Int} (hn : S.Nodup) (h : ∀ f ∈ S, ∀ g ∈ S, trc P f = trc P g → f = g) : tellB S P = true := by
  have e : (cutM S P).length = (S.map (trc P)).length := by
    have nd : (S.map (trc P)).Nodup := by
      rw [List.nodup_iff_pairwise_ne, List.pairwise_map]
      exact (List.nodup_iff_pairwise_ne.mp hn).imp_of_mem fun {a b} ha hb hne z => hne (h a ha b hb z)
    exact ((List.perm_ext_iff_of_nodup (cut_nd S P) nd).mpr fun y => by
      rw [cut_mem, List.mem_map]
      constructor
      · rintro ⟨o, ho, rfl⟩; exact ⟨o, ho, rfl⟩
      · rintro ⟨o, ho, rfl⟩; exact ⟨o, ho, rfl⟩).length_eq
  rw [List.length_map] at e
  exact decide_eq_true (by omega)
theorem tell_mono {S T : List (List Int)} {P : List Int} (hS : S.Nodup) (hT : T.Nodup) (h : ∀ f ∈ S, f ∈ T) (ht : tellB T P = true) : tellB S P = true :=
  inj_tell hS fun f hf g hg e => tell_inj hT ht f (h f hf) g (h g hg) e
/-! ### families with fewer sets of as many points -/
theorem gcut_mono {P M P' M' : Int} {F G : Int × List (List Int)} (hF : Fam P M F) (hP : P ≤ 8) (e : F.1 = G.1) (h : ∀ f ∈ F.2, f ∈ G.2) :
    maxL (((listsM F.1).filter (fullB F.2)).map fun p => (p.length : Int)) ≤ maxL (((listsM G.1).filter (fullB G.2)).map fun p => (p.length : Int)) := by
  have h1 := hF.n1
  have h2 := hF.n2
  refine maxL_sub (fun x hx => ?_) fun z => ?_
  · obtain ⟨p, hp, rfl⟩ := List.mem_map.mp hx
    obtain ⟨a, b⟩ := List.mem_filter.mp hp
    have nd : p.Nodup := (lists_ris (by omega) a).1.imp fun hlt => by omega
    exact List.mem_map.mpr ⟨p, List.mem_filter.mpr ⟨e ▸ a, full_mono nd h b⟩, rfl⟩
  · have hm : ([] : List Int) ∈ (listsM F.1).filter (fullB F.2) := List.mem_filter.mpr ⟨nil_lists ⟨by omega, by omega⟩, full_nil hF.ne⟩
    have := List.mem_map_of_mem (f := fun (p : List Int) => (p.length : Int)) hm
    rw [z] at this
    cases this
theorem few_mono {P M P' M' : Int} {F G : Int × List (List Int)} (hF : Fam P M F) (hG : Fam P' M' G) (hP : P ≤ 8) (hP' : P' ≤ 8) (e : F.1 = G.1) (h : ∀ f ∈ F.2, f ∈ G.2) : (fewM F).length ≤ (fewM G).length := by
  obtain ⟨a, _, _⟩ := few_ok hF hP
  obtain ⟨_, b, c⟩ := few_ok hG hP'
  exact find_le (fun x : List Int => x.length) (tellB F.2) (lists_by_len F.1) a (e ▸ b) (tell_mono hF.nd hG.nd h c)
/-- a set's lesson, others left out -/
theorem les_mono {P M P' M' : Int} {F G : Int × List (List Int)} (hF : Fam P M F) (hG : Fam P' M' G) (hP : P ≤ 8) (hP' : P' ≤ 8) (e : F.1 = G.1) {c d : Int} (c0 : 0 ≤ c) (c1 : c < F.2.length) (d0 : 0 ≤ d) (d1 : d < G.2.length) (hcd : getL F.2 c = getL G.2 d)
    (h : ∀ f ∈ F.2, f ∈ G.2) : (lesM F c).length ≤ (lesM G d).length := by
  obtain ⟨a, _, _⟩ := les_ok hF hP c0 c1
  obtain ⟨_, b, q⟩ := les_ok hG hP' d0 d1
  refine find_le (fun x : List Int => x.length) (fun p => aloneB F.2 p c) (lists_by_len F.1) a (e ▸ b) ?_
  rw [alone_iff c0 c1]
  rw [alone_iff d0 d1] at q
  intro i x hi hx z
  have hm := getL_get c0 c1
  have hg := getL_get d0 d1
  obtain ⟨j, hj⟩ := List.getElem?_of_mem (h x (mem_of_get hx))
  have hne : x ≠ getL F.2 c := fun y => by
    subst y
    have := (List.getElem?_inj (lt_of_get hx) hF.nd).mp (hx.trans hm.symm)
    exact hi this
  refine q j x (fun y => ?_) hj (by rw [← hcd]; exact z)
  subst y
  rw [hg] at hj
  exact hne (by rw [hcd]; exact (Option.some.inj hj).symm)
theorem hard_le {P M P' M' : Int} {F G : Int × List (List Int)} (hF : Fam P M F) (hG : Fam P' M' G) (hP : P ≤ 8) (hP' : P' ≤ 8) (e : F.1 = G.1) (h : ∀ f ∈ F.2, f ∈ G.2) : hardM F ≤ hardM G := by
  have hl := List.length_pos_iff.mpr hF.ne
  have ne : (rg 0 ((F.2.length : Int)).toNat).map (fun c => ((lesM F c).length : Int)) ≠ [] := by
    intro z
    have := congrArg List.length z
    rw [List.length_map, rg_len, List.length_nil] at this
    omega
  obtain ⟨c, hc, q⟩ := List.mem_map.mp (maxL_mem ne)
  have hc' := mem_rg.mp hc
  have c0 : 0 ≤ c := by omega
  have c1 : c < F.2.length := by omega
  obtain ⟨j, hj⟩ := List.getElem?_of_mem (h _ (mem_of_get (getL_get c0 c1)))
  have hjl := lt_of_get hj
  have hg : getL G.2 (j : Int) = getL F.2 c := by
    have := getL_get (sets := G.2) (c := (j : Int)) (by omega) (by omega)
    rw [Int.toNat_natCast, hj] at this
    exact (Option.some.inj this).symm
  have := les_mono hF hG hP hP' e c0 c1 (d := (j : Int)) (by omega) (by omega) hg.symm h
  have up : ((lesM G (j : Int)).length : Int) ≤ hardM G := le_maxL (List.mem_map.mpr ⟨(j : Int), mem_rg.mpr ⟨by omega, by omega⟩, rfl⟩)
  unfold hardM at *
  omega
end Zk

namespace Zk
open PySem PySem.Spec PyProof.Rows L2

/-! ### x, y = e1, e2, both all new -/
section
variable {X : Cx} {b : Bs} {N : List Str} {sc scope : Scope} {mg : Str → Option Value} {W : Str → Bool} {Γ Γ1 Γ2 Γ3 : List En} {k k' rl : Bool} {pos pos' pp tpos : Pos} {e e1 e2 : Expr}
variable {α β γ δ ε : Type} [ia : Py α] [ib : Py β] [ic : Py γ] [id' : Py δ] [ie : Py ε] {P : V → V → Prop} {j jy : Nat} {apos cpos p1 epos ypos bpos : Pos}
def tDD (K : PySem.W.Frag) (b : Bs) (Γ : List En) (d1 d2 : PyData) : TA := fun σ H Q => ∃ F, EnvOk K b F H σ Γ ∧ ∀ v1 v2 F1 H1 F2 H2, Grow F H F1 H1 → Dq (sel2 H F1 true) v1 d1 → Grow F1 H1 F2 H2 → Dq (sel2 H1 F2 true) v2 d2 → Q [v1, v2] H2
theorem xa_DD {p : α} {q : β} (h1 : XD X b e1 Γ p) (h2 : XD X b e2 Γ q) (hs1 : starEach [e1, e2] X.env = (false, eval e1 X.env) :: starEach [e2] X.env) (hs2 : starEach [e2] X.env = [(false, eval e2 X.env)]) : PA X [e1, e2] (tDD X.K b Γ (Py.enc p) (Py.enc q)) :=
  PA.wk (pa_cons h1 (pa_cons h2 pa_nil hs2) hs1) fun σ H Q ⟨F, ok, k⟩ => ⟨F, ok, fun v F1 H1 g1 d1 => ⟨F1, ok.gr g1, fun w F2 H2 g2 d2 => k v w F1 H1 F2 H2 g1 d1 g2 d2⟩⟩
theorem dq_reg {H F1 H1 H2 : Hp} {A : Addr → Prop} {v : V} {d : PyData} (hF : Ex F1 H1) (hb : Ex H1 H2) (hA : ∀ l, H l = none → H1 l ≠ none → A l) (h : Dq (sel2 H F1 true) v d) : Dq (reg A H2) v d := by
  refine dq_mo (fun l o q => ?_) _ _ h
  simp only [sel2] at q
  cases z : H l with
  | some u => rw [z] at q; cases q
  | none =>
    rw [z] at q
    have q : nofrz (F1 l) = some o := q
    have hl := hF l o (nofrz_some q)
    exact reg_mk (hA l z (by rw [hl]; exact fun y => by cases y)) (hb l o hl) (nofrz_id q)
theorem xs_parDD {i j : Nat} {x y : Str} {px pt py : Pos} {kt k2 pt2} {p : α} {q : β} (c : Cf X N sc mg W) (hi : N[i]? = some x) (hj : N[j]? = some y) (hij : i ≠ j) (hx : sc.names.lookup x = some .local) (hy : sc.names.lookup y = some .local)
    (h1 : XD X b e1 Γ p) (h2 : XD X b e2 Γ q) (hw : swappedStores [.Tuple [.Name x px, .Name y py] kt pt] (.Tuple [e1, e2] k2 pt2) X.env = pure (some [x, y]))
    (hs1 : starEach [e1, e2] X.env = (false, eval e1 X.env) :: starEach [e2] X.env := by rfl) (hs2 : starEach [e2] X.env = [(false, eval e2 X.env)] := by rfl) :
    XS X b rl (.Assign [.Tuple [.Name x px, .Name y py] kt pt] (.Tuple [e1, e2] k2 pt2) pos) Γ (none : Option γ) ((Γ.set i (.res (ownD α p))).set j (.res (ownD β q))) :=
  PS.wk (ps_par c.calm (by rw [c.hN]; exact c.nd) (by rw [c.hN]; exact hi) (by rw [c.hN]; exact hj) hij (by rw [c.hs]; exact hx) (by rw [c.hs]; exact hy) (xa_DD h1 h2 hs1 hs2) hw rfl) fun D σ H ⟨F, ok, kk⟩ => ⟨F, ok, fun v w F1 H1 F2 H2 g1 d1 g2 d2 => by
    refine ⟨v, w, rfl, kk _ F H2 (Ex.rf F) ?_⟩
    have s1 : Grow F H F H1 := Grow.same ok.fr.h g1.b
    have s2 : Grow F H1 F H2 := Grow.same (ok.fr.h.tr g1.b) g2.b
    have r1 := ok.newR s1 (r := ownD α p) (A := fun l => H l = none ∧ H1 l ≠ none) (fun l hl => ⟨hl.1, hl.2, ok.fr.h.no hl.1⟩) (dq_reg (H2 := H1) g1.h (Ex.rf _) (fun l a c => ⟨a, c⟩) d1) i
    exact r1.newR s2 (r := ownD β q) (A := fun l => H1 l = none ∧ H2 l ≠ none) (fun l hl => ⟨hl.1, hl.2, (ok.fr.h.tr g1.b).no hl.1⟩) (dq_reg (H2 := H2) g2.h (Ex.rf _) (fun l a c => ⟨a, c⟩) d2) j⟩
/-! ### for y in xs + ys: y.append(c), of two things of one's own -/
theorem xs_mut2 [Scal α] {y : Str} {xs ys : List (List α)} {a : δ} {a2 : γ} {p : β} {P2 : V → V → Prop} {i2 : Nat} (cf : Cf X N sc mg W) (hΓ : Γ[j]? = some (.res (ownD δ a))) (hΓ2 : Γ[i2]? = some (.res (ownD γ a2))) (hji : j ≠ i2) (h1 : XR X b j P e1 Γ xs) (h2 : XR X b i2 P2 e2 Γ ys) (hij : j ≠ jy) (hi2 : i2 ≠ jy) (hN : N[jy]? = some y) (hy : sc.names.lookup y = some .local) (hW : W y = true) (he : ∀ Γ, XE X b e Γ .bor p) (hz : xs.length + ys.length ≤ 1000 ∧ (∀ y ∈ xs, y.length ≤ 1000) ∧ ∀ y ∈ ys, y.length ≤ 1000)
    (hjl : decide (jy < Γ.length) = true := by rfl)
    (hbase : attributeBase (.Name y p1) "append" X.env (eval (.Name y p1) X.env) = eval (.Name y p1) X.env := by rfl)
    (hfew : ((backTo cpos (starEach [e] X.env)).all (fun x => !x.1) && (backToKw cpos (keywordEach [] X.env)).all (fun x => x.1.isSome) && decide (([e] : List Expr).length + ([] : List Keyword).length + (if ([] : List Keyword).isEmpty then 0 else 1) < 30)) = true := by rfl)
    (hline : (apos.endLine == cpos.line) = true := by rfl) (hse : starEach [e] X.env = [(false, eval e X.env)] := by rfl) (hsw : swapsWith (.Call (.Attribute (.Name y p1) "append" apos) [e] [] cpos) none epos.line X.env = pure false := by rfl)
    (hd : (y == ("__debug__" : Str)) = false := by decide) (hcd : (y == ("__classdict__" : Str)) = false := by decide)
    (hs : ∀ x, foldedSetIterable (.BinOp e1 .Add e2 bpos) X.env x = pure x := by intro _; rfl) :
    XS X b rl (.For (.Name y ypos) (.BinOp e1 .Add e2 bpos) [.Expr (.Call (.Attribute (.Name y p1) "append" apos) [e] [] cpos) epos] [] pos) Γ (none : Option ε) (((Γ.set i2 .no).set jy .no).set j .no) := by
  have hx' : L2.Loc X.env.scope y := by rw [cf.hs]; exact .inl hy
  have hv' : Vis X.env.scope y := by rw [cf.hs]; exact .inl hy
  have hNy : X.N[jy]? = some y := by rw [cf.hN]; exact hN
  refine PS.wk (ps_for (tb := fun D σ H => ∃ l' ws, σ[jy]? = some (some (.ref l')) ∧ H l' = some (.lst ws) ∧ ws.length < 1000000 ∧ ∃ F Γ, EnvOk X.K b F H σ Γ ∧ ∀ F' H' z, Grow F H F' H' → D.nx σ (upd H' l' (.lst (ws ++ [z]))))
    cf.pass cf.calm (pi_list (pe_op op_catS h1 h2)) (pg_name (i := jy) (by rw [cf.hN]; exact cf.nd) hNy hx' (cf.fn y hW)) ⟨fun pins s' σ H D I h => ?_⟩ hs) ?_
  · obtain ⟨l', ws, hσ, hl, hw, F, Γe, ok, kk⟩ := h
    refine (pss_one (PS.wk (ps_expr (pe_bm PySem.F.plainAttrs_list PySem.F.slot_list_append PySem.F.type_list_append mt_append (pe_var (i := jy) hNy hv' hd hcd) (xa_cons (he Γe) xa_nil hse) hbase hfew hline hse) hsw)
      (t' := fun D σ H => ∃ l' ws, σ[jy]? = some (some (.ref l')) ∧ H l' = some (.lst ws) ∧ ws.length < 1000000 ∧ ∃ F, EnvOk X.K b F H σ Γe ∧ ∀ F' H' z, Grow F H F' H' → D.nx σ (upd H' l' (.lst (ws ++ [z])))) ?_)).run _ _ _ _ D I ⟨l', ws, hσ, hl, hw, F, ok, kk⟩
    rintro D σ H ⟨l', ws, hσ, hl, hw, F, ok, kk⟩
    refine ⟨_, hσ, .inl ⟨rfl, ws, .inl (.inl hl)⟩, F, ok, fun us F1 H1 g1 d1 => ?_⟩
    obtain ⟨z, rfl, _⟩ := dql1 d1
    exact ⟨l', ws, z, rfl, rfl, g1.b _ _ hl, Nat.lt_of_lt_of_le hw (by decide), kk F1 H1 z g1⟩
  · rintro D σ0 H0 ⟨F0, ok0, kk⟩
    obtain ⟨fp, oa⟩ := ok0.get
    refine ⟨F0, fp, oa, fun v v0 F1 H1 g1 hv0 hP d1 => ?_⟩
    refine ⟨F1, fp, oa.gr g1, fun w w0 F2 H2 g2 hw0 hP2 d2 => ?_⟩
    have d1 := dq_mo (reg_mo fun l o _ q => g2.b l o q) _ _ d1
    have g12 := g1.tr g2
    have oa1 := oa.gr g12
    obtain ⟨l1, vs1, rfl, hq1, hz1, hall1⟩ := dp_lst d1
    obtain ⟨l2, vs2, rfl, hq2, hz2, hall2⟩ := dp_lst d2
    obtain ⟨hA1, hl1⟩ := rd_reg hq1
    obtain ⟨hA2, hl2⟩ := rd_reg hq2
    have len1 : vs1.length = xs.length := by rw [dqa_len hall1, List.length_map]
    have len2 : vs2.length = ys.length := by rw [dqa_len hall2, List.length_map]
    have hin1 := inner_of (m := 1000) (reg_mk hA1 hl1 rfl) hall1 (fun a u h => by
      rcases h with h | ⟨o, h⟩
      · exact h
      · exact absurd (reg_at h).2.2 (fun z => by cases z)) hz.2.1
    have hin2 := inner_of (m := 1000) (reg_mk hA2 hl2 rfl) hall2 (fun a u h => by
      rcases h with h | ⟨o, h⟩
      · exact h
      · exact absurd (reg_at h).2.2 (fun z => by cases z)) hz.2.2
    refine ⟨l1, l2, vs1, vs2, rfl, rfl, .inl hl1, .inl hl2, Nat.le_trans (by omega) (show 1000000 ≤ sizeLine by decide), fun l hl => ?_⟩
    have gl : Grow F2 H2 F2 (upd H2 l (.lst (vs1 ++ vs2))) := Grow.same oa1.fr.h (Ex.nw hl)
    have oa3 := oa1.gr gl
    generalize hvs : vs1 ++ vs2 = vs at gl oa3
    have lenv : vs.length ≤ 1000 := by rw [← hvs, List.length_append]; omega
    let fq : Nat → Addr → Prop := fun m a => if m = j then (fp j a ∨ fp i2 a ∨ a = l) else if m = i2 then False else fp m a
    have hlF : F2 l = none := oa1.fr.h.no hl
    have hlB : b.B l = none := oa1.fr.b.no hl
    have hlfp : ∀ m, ¬ fp m l := fun m z => (oa1.ow m l z).1 hl
    have mg0 : EnvAt X.K b F2 (upd H2 l (.lst vs)) σ0 (((Γ.set i2 .no).set jy .no).set j (.res (ownM l vs 1000))) fq := by
      have s1 := (oa3.drop i2).drop jy
      obtain ⟨fr, len, dj, ow, sl⟩ := s1
      refine ⟨fr, by simpa using len, fun m n a hm hn => ?_, fun m a hm => ?_, fun m e he => ?_⟩
      · by_cases zm : m = j <;> by_cases zn : n = j
        · rw [zm, zn]
        · simp only [fq, if_pos zm, if_neg zn] at hm hn
          by_cases yn : n = i2
          · simp only [if_pos yn] at hn
          · simp only [if_neg yn] at hn
            rcases hm with hm | hm | hm
            · exact absurd (dj j n a hm hn).symm zn
            · exact absurd (dj i2 n a hm hn).symm yn
            · subst hm; exact absurd hn (hlfp n)
        · simp only [fq, if_neg zm, if_pos zn] at hm hn
          by_cases ym : m = i2
          · simp only [if_pos ym] at hm
          · simp only [if_neg ym] at hm
            rcases hn with hn | hn | hn
            · exact absurd (dj m j a hm hn) zm
            · exact absurd (dj m i2 a hm hn) ym
            · subst hn; exact absurd hm (hlfp m)
        · simp only [fq, if_neg zm, if_neg zn] at hm hn
          by_cases ym : m = i2
          · simp only [if_pos ym] at hm
          · by_cases yn : n = i2
            · simp only [if_pos yn] at hn
            · simp only [if_neg ym, if_neg yn] at hm hn
              exact dj m n a hm hn
      · by_cases zm : m = j
        · simp only [fq, if_pos zm] at hm
          rcases hm with hm | hm | rfl
          · exact ow j a hm
          · exact ow i2 a hm
          · exact ⟨by rw [upd_same]; exact fun z => (by cases z), hlF, hlB⟩
        · simp only [fq, if_neg zm] at hm
          by_cases ym : m = i2
          · simp only [if_pos ym] at hm
          · simp only [if_neg ym] at hm
            exact ow m a hm
      · by_cases zm : j = m
        · subst zm
          have hjl' : j < ((Γ.set i2 .no).set jy .no).length := by simpa using (List.getElem?_eq_some_iff.mp he).1
          rw [List.getElem?_set_self hjl'] at he
          cases he
          obtain ⟨o, ho, v, hv, _⟩ := oa3.sl j _ hΓ
          refine ⟨o, ho, v, hv, ?_⟩
          have hq : ∀ a, (fp j a ∨ fp i2 a ∨ a = l) → fq j a := fun a h => by
            simpa [fq] using h
          refine ⟨hq l (.inr (.inr rfl)), upd_same, fun w hw => ?_⟩
          rw [← hvs] at hw
          rcases List.mem_append.mp hw with hw | hw
          · obtain ⟨l', ws, rfl, n, h', z⟩ := hin1 w hw
            have hl' : H2 l' = some (.lst ws) := (reg_at h').2.1
            have hne : l' ≠ l := fun z => by subst z; rw [hl] at hl'; cases hl'
            exact ⟨l', ws, rfl, hne, hq l' (.inl (reg_at h').1), by rw [upd_ne hne]; exact hl', z⟩
          · obtain ⟨l', ws, rfl, n, h', z⟩ := hin2 w hw
            have hl' : H2 l' = some (.lst ws) := (reg_at h').2.1
            have hne : l' ≠ l := fun z => by subst z; rw [hl] at hl'; cases hl'
            exact ⟨l', ws, rfl, hne, hq l' (.inr (.inl (reg_at h').1)), by rw [upd_ne hne]; exact hl', z⟩
        · rw [List.getElem?_set_ne zm] at he
          obtain ⟨o, ho, s⟩ := sl m e he
          refine ⟨o, ho, ?_⟩
          by_cases ym : m = i2
          · subst ym
            by_cases yy : jy = m
            · exact absurd yy.symm hi2
            · rw [List.getElem?_set_ne yy] at he
              have hmi : m < Γ.length := (List.getElem?_eq_some_iff.mp hΓ2).1
              rw [List.getElem?_set_self hmi] at he
              cases he
              exact trivial
          · have e1 : fq m = fp m := by
              funext a
              simp only [fq, if_neg (Ne.symm zm), if_neg ym]
            rw [e1]
            exact s
    have hv0j : σ0[j]? = some (some v0) := hv0
    refine ⟨l, rfl, ⟨vs, .inl (.inl upd_same)⟩, ?_⟩
    have hjG : ((Γ.set i2 .no).set jy .no)[j]? = some (.res (ownD δ a)) := by rw [List.getElem?_set_ne (Ne.symm hij), List.getElem?_set_ne (Ne.symm hji)]; exact hΓ
    let Pv : Nat → L2.St → Hp → Prop := fun i σ H => i ≤ vs.length ∧ ∃ F, Ex F2 F ∧ EnvAt X.K b F H σ (((Γ.set i2 .no).set jy .no).set j (.res (ownM l vs (1000 + i)))) fq
    refine ⟨fun i m σ H => m = vs.length - i ∧ Pv i σ H, ⟨vs.length, by simp, Nat.zero_le _, F2, Ex.rf F2, mg0⟩, ?_⟩
    rintro i m σ H ⟨rfl, hi', F, eF, oai⟩
    have hjM := set_at (e' := En.res (ownM l vs (1000 + i))) hjG
    obtain ⟨o, ho, v, rfl, hAl, hHl, hw⟩ := oai.sl j _ hjM
    by_cases hlt : i < vs.length
    · refine .inr ⟨⟨vs, vs[i], .inl (.inl hHl), List.getElem?_eq_getElem hlt⟩, Pv (i + 1), fun σ' H' h' => ⟨vs.length - (i + 1), by omega, rfl, h'⟩, fun xv H2 hyl => ?_⟩
      obtain ⟨rfl, hx⟩ := hyl
      have hxv := hx vs (.inl (.inl hHl))
      obtain ⟨l', ws, rfl, hne, hA', hl', hwz⟩ := hw _ (List.mem_of_getElem? hxv)
      have hjy : jy < σ.length := by
        have h0 := oai.len
        rw [List.length_set, List.length_set, List.length_set] at h0
        rw [h0]
        exact of_decide_eq_true hjl
      have oas := oai.setN jy (some (V.ref l'))
      have hlw : ws.length < 1000000 := by
        have : i < 1000 := by omega
        omega
      refine ⟨l', ws, by rw [List.getElem?_set_self hjy], hl', hlw, F, _, oas.ok, fun F' H' z g' => ⟨by omega, F', eF.tr g'.f, ?_⟩⟩
      have hset : (((Γ.set i2 .no).set jy .no).set j (.res (ownM l vs (1000 + i)))).set jy .no = ((Γ.set i2 .no).set jy .no).set j (.res (ownM l vs (1000 + i))) := by
        rw [List.set_comm _ _ hij, List.set_set]
      rw [hset] at oas
      have oa2 := oas.gr g'
      have hjM2 := set_at (e' := En.res (ownM l vs (1000 + i))) hjG
      have oa3 := oa2.mut (r' := ownM l vs (1000 + (i + 1))) hjM2 (H' := upd H' l' (.lst (ws ++ [z]))) (fun m hm => upd_ne fun q => hm (q ▸ hA')) (fun m hm => by
        by_cases q : m = l'
        · subst q; rw [upd_same]; exact fun q => by cases q
        · rw [upd_ne q]; exact (oa2.ow _ _ hm).1) fun v' _ => ⟨hAl, by rw [upd_ne (Ne.symm hne)]; exact g'.b _ _ hHl, fun w hww => ?_⟩
      · rw [List.set_set] at oa3
        exact oa3
      · obtain ⟨l2, ws2, rfl, n2, a2, h2, z2⟩ := hw w hww
        by_cases q : l2 = l'
        · subst q
          rw [hl'] at h2
          cases h2
          exact ⟨l2, ws ++ [z], rfl, n2, a2, upd_same, by rw [List.length_append]; simp; omega⟩
        · exact ⟨l2, ws2, rfl, n2, a2, by rw [upd_ne q]; exact g'.b _ _ h2, by omega⟩
    · refine .inl ⟨⟨vs, .inl (.inl hHl), by omega⟩, ?_⟩
      have oaf := oai.drop j
      rw [List.set_set] at oaf
      exact kk σ F H ((g12.f).tr eF) oaf.ok
end
end Zk

namespace Zk
open PySem PySem.Spec PyProof.Rows L2

/-! ### all rising lists are told -/
theorem dbl_mem : ∀ (xs : List Int) (acc : List (List Int)) (A Q : List Int), A ∈ acc → Q.Sublist xs → A ++ Q ∈ xs.foldl (fun s p => s ++ s.map (fun x => x ++ [p])) acc
  | [], acc, A, Q, hA, hQ => by
    have : Q = [] := List.sublist_nil.mp hQ
    subst this
    simpa using hA
  | x :: xs, acc, A, Q, hA, hQ => by
    show A ++ Q ∈ xs.foldl _ (acc ++ acc.map fun y => y ++ [x])
    cases hQ with
    | cons _ h => exact dbl_mem xs _ A Q (List.mem_append.mpr (.inl hA)) h
    | cons_cons _ h =>
      rename_i Q'
      have := dbl_mem xs (acc ++ acc.map fun y => y ++ [x]) (A ++ [x]) Q' (List.mem_append.mpr (.inr (List.mem_map.mpr ⟨A, hA, rfl⟩))) h
      rwa [List.append_assoc] at this
theorem ris_sub {n : Int} {P : List Int} (h : Ris n P) : P.Sublist (rg 0 n.toNat) := by
  have e : P = (rg 0 n.toNat).filter fun x => memB x P := ris_ext h.1 ((rg_pw 0 n.toNat).sublist List.filter_sublist) fun x => by
    rw [List.mem_filter, memB_t, mem_rg]
    constructor
    · intro hx
      have := h.2 x hx
      exact ⟨by omega, hx⟩
    · exact fun hx => hx.2
  rw [e]
  exact List.filter_sublist
theorem lists_all {n : Int} (h : 0 ≤ n ∧ n ≤ 8) {P : List Int} (hP : Ris n P) : P ∈ listsM n := by
  have := dbl_mem (rg 0 n.toNat) [[]] [] P (by simp) (ris_sub hP)
  rw [dbl_eq h, List.mem_map] at this
  obtain ⟨k, hk, e⟩ := this
  have := mem_rg.mp hk
  exact lists_mem.mpr ⟨k, by omega, by omega, by simpa using e.symm⟩

/-! ### what traces say -/
theorem trc_eq {P f g : List Int} : trc P f = trc P g ↔ ∀ x ∈ P, memB x f = memB x g := by
  unfold trc
  constructor
  · intro h x hx
    cases q : memB x f with
    | true =>
      have : x ∈ P.filter fun x => memB x g := by rw [← h]; exact List.mem_filter.mpr ⟨hx, q⟩
      exact (List.mem_filter.mp this).2.symm
    | false =>
      cases q2 : memB x g with
      | false => rfl
      | true =>
        have : x ∈ P.filter fun x => memB x f := by rw [h]; exact List.mem_filter.mpr ⟨hx, q2⟩
        rw [(List.mem_filter.mp this).2] at q
        cases q
  · exact fun h => List.filter_congr h
theorem shat_iff {S : List (List Int)} {P : List Int} (hP : P.Nodup) : Shat S P ↔ ∀ a : Int → Bool, ∃ f ∈ S, ∀ x ∈ P, memB x f = a x := by
  constructor
  · intro h a
    obtain ⟨f, hf, e⟩ := h (P.filter a) (mem_subsL List.filter_sublist)
    refine ⟨f, hf, fun x hx => ?_⟩
    cases q : a x with
    | true =>
      have : x ∈ trc P f := by rw [e]; exact List.mem_filter.mpr ⟨hx, q⟩
      exact (List.mem_filter.mp this).2
    | false =>
      cases q2 : memB x f with
      | false => rfl
      | true =>
        have : x ∈ P.filter a := by rw [← e]; exact List.mem_filter.mpr ⟨hx, q2⟩
        rw [(List.mem_filter.mp this).2] at q
        cases q
  · intro h Q hQ
    obtain ⟨f, hf, e⟩ := h (fun x => memB x Q)
    have sub := sub_of_subsL hQ
    refine ⟨f, hf, ?_⟩
    have e2 : trc P f = P.filter fun x => memB x Q := List.filter_congr e
    rw [e2]
    -- a sublist of a list without doubles is its filter
    have key : ∀ (P Q : List Int), P.Nodup → Q.Sublist P → (P.filter fun x => memB x Q) = Q := by
      intro P
      induction P with
      | nil => intro Q _ h; exact (List.sublist_nil.mp h).symm
      | cons x P ih =>
        intro Q hn hs
        rw [List.nodup_cons] at hn
        cases hs with
        | cons _ h =>
          have hx : memB x Q = false := memB_f.mpr fun z => hn.1 (h.mem z)
          rw [List.filter_cons, hx]
          exact ih Q hn.2 h
        | cons_cons _ h =>
          rename_i Q'
          rw [List.filter_cons, memB_t.mpr List.mem_cons_self]
          show x :: _ = x :: Q'
          congr 1
          refine Eq.trans (List.filter_congr fun y hy => ?_) (ih Q' hn.2 h)
          unfold memB
          have : y ≠ x := fun z => hn.1 (z ▸ hy)
          simp [this]
    exact key P Q hP sub

/-! ### families alike -/
inductive All2 {α β : Type} (R : α → β → Prop) : List α → List β → Prop where
  | nil : All2 R [] []
  | cons {a : α} {b : β} {as : List α} {bs : List β} : R a b → All2 R as bs → All2 R (a :: as) (b :: bs)
section
variable {α β : Type} {R : α → β → Prop}
theorem All2.len {xs : List α} {ys : List β} (h : All2 R xs ys) : xs.length = ys.length := by
  induction h with
  | nil => rfl
  | cons _ _ ih => simp [ih]
theorem All2.filter {xs : List α} {ys : List β} {p : α → Bool} {q : β → Bool} (h : All2 R xs ys) (hp : ∀ a b, R a b → p a = q b) : All2 R (xs.filter p) (ys.filter q) := by
  induction h with
  | nil => exact .nil
  | @cons a b as bs r _ ih =>
    rw [List.filter_cons, List.filter_cons, hp a b r]
    cases q b
    · exact ih
    · exact .cons r ih
theorem All2.get {xs : List α} {ys : List β} (h : All2 R xs ys) : ∀ {i : Nat} {x : α}, xs[i]? = some x → ∃ y, ys[i]? = some y ∧ R x y := by
  induction h with
  | nil => intro i x h; simp at h
  | cons r _ ih =>
    intro i x h
    cases i with
    | zero => simp at h; subst h; exact ⟨_, by simp, r⟩
    | succ i => simpa using ih (by simpa using h)
theorem All2.flip {xs : List α} {ys : List β} {R' : β → α → Prop} (h : All2 R xs ys) (hr : ∀ a b, R a b → R' b a) : All2 R' ys xs := by
  induction h with
  | nil => exact .nil
  | cons r _ ih => exact .cons (hr _ _ r) ih
theorem all2_map {xs : List α} {f : α → β} (h : ∀ x ∈ xs, R x (f x)) : All2 R xs (xs.map f) := by
  induction xs with
  | nil => exact .nil
  | cons x xs ih => exact .cons (h x (by simp)) (ih fun y hy => h y (List.mem_cons_of_mem _ hy))
end
/-- points renamed by σ, back by τ -/
structure Bij (n : Int) (σ τ : Int → Int) : Prop where
  a : ∀ p, 0 ≤ p ∧ p < n → 0 ≤ σ p ∧ σ p < n
  b : ∀ p, 0 ≤ p ∧ p < n → 0 ≤ τ p ∧ τ p < n
  ta : ∀ p, 0 ≤ p ∧ p < n → τ (σ p) = p
  at_ : ∀ p, 0 ≤ p ∧ p < n → σ (τ p) = p
theorem Bij.symm {n : Int} {σ τ : Int → Int} (h : Bij n σ τ) : Bij n τ σ := ⟨h.b, h.a, h.at_, h.ta⟩
/-- a set and its like: each point renamed, all exchanged where d -/
def Lk (n : Int) (σ : Int → Int) (d : Bool) (f g : List Int) : Prop := ∀ p, 0 ≤ p ∧ p < n → memB (σ p) g = (d ^^ memB p f)
theorem Lk.symm {n : Int} {σ τ : Int → Int} {d : Bool} {f g : List Int} (B : Bij n σ τ) (h : Lk n σ d f g) : Lk n τ d g f := fun p hp => by
  have := h (τ p) (B.b p hp)
  rw [B.at_ p hp] at this
  rw [this]
  cases d <;> cases memB (τ p) f <;> rfl
section
variable {n : Int} {σ τ : Int → Int} {d : Bool}
theorem half_lk {S T : List (List Int)} (h : All2 (Lk n σ d) S T) {p : Int} (hp : 0 ≤ p ∧ p < n) (c : Bool) : All2 (Lk n σ d) (halfM S p c) (halfM T (σ p) (d ^^ c)) :=
  h.filter fun f g r => by
    rw [r p hp]
    cases d <;> cases memB p f <;> cases c <;> rfl
theorem part_lk {S T : List (List Int)} (B : Bij n σ τ) (h : All2 (Lk n σ d) S T) {p : Int} (hp : p ∈ partM S n) : σ p ∈ partM T n := by
  obtain ⟨p0, p1, p2⟩ := part_mem.mp hp
  have h1 := (half_lk h p0 true).len
  have h2 := h.len
  have s1 := half_sum S p
  have s2 := half_sum T (σ p)
  refine part_mem.mpr ⟨B.a p p0, ?_⟩
  cases d with
  | false =>
    have h1 : (halfM S p true).length = (halfM T (σ p) true).length := h1
    omega
  | true =>
    have h1 : (halfM S p true).length = (halfM T (σ p) false).length := h1
    omega
theorem m_lk (B : Bij n σ τ) : ∀ (k : Nat) (S T : List (List Int)), S.length ≤ k → Val n S → Val n T → All2 (Lk n σ d) S T → mM n T = mM n S
  | 0, S, T, hk, _, _, h => by
    have := h.len
    rw [m_small (by omega), m_small (by omega)]
    omega
  | k + 1, S, T, hk, hS, hT, h => by
    have hl := h.len
    by_cases h2 : S.length < 2
    · rw [m_small h2, m_small (by omega)]
      omega
    · have val : ∀ p, p ∈ partM S n → mVal n T (σ p) = mVal n S p := fun p hp => by
        have hp0 := (part_mem.mp hp).1
        have i1 := m_lk B k (halfM S p false) _ (by have := (part_lt hp false).1; omega) (hS.half p false) (hT.half (σ p) (d ^^ false)) (half_lk h hp0 false)
        have i2 := m_lk B k (halfM S p true) _ (by have := (part_lt hp true).1; omega) (hS.half p true) (hT.half (σ p) (d ^^ true)) (half_lk h hp0 true)
        unfold mVal
        cases d with
        | false =>
          have i1 : mM n (halfM T (σ p) false) = _ := i1
          have i2 : mM n (halfM T (σ p) true) = _ := i2
          rw [i1, i2]
        | true =>
          have i1 : mM n (halfM T (σ p) true) = _ := i1
          have i2 : mM n (halfM T (σ p) false) = _ := i2
          rw [i1, i2]
          omega
      obtain ⟨p, hp, e⟩ := mM_some hS (by omega)
      obtain ⟨q, hq, e'⟩ := mM_some hT (by omega)
      have a1 := mM_ge (part_lk B h hp)
      rw [val p hp, ← e] at a1
      have hq0 := (part_mem.mp hq).1
      have hp' := part_lk B.symm (h.flip fun _ _ r => r.symm B) hq
      have a2 := mM_ge hp'
      have := val _ hp'
      rw [B.at_ q hq0, ← e'] at this
      omega
theorem d_lk (B : Bij n σ τ) : ∀ (k : Nat) (S T : List (List Int)), S.length ≤ k → Val n S → Val n T → All2 (Lk n σ d) S T → dM n T = dM n S
  | 0, S, T, hk, _, _, h => by
    have := h.len
    rw [d_small (by omega), d_small (by omega)]
  | k + 1, S, T, hk, hS, hT, h => by
    have hl := h.len
    by_cases h2 : S.length < 2
    · rw [d_small h2, d_small (by omega)]
    · have val : ∀ p, p ∈ partM S n → dVal n T (σ p) = dVal n S p := fun p hp => by
        have hp0 := (part_mem.mp hp).1
        have i1 := d_lk B k (halfM S p false) _ (by have := (part_lt hp false).1; omega) (hS.half p false) (hT.half (σ p) (d ^^ false)) (half_lk h hp0 false)
        have i2 := d_lk B k (halfM S p true) _ (by have := (part_lt hp true).1; omega) (hS.half p true) (hT.half (σ p) (d ^^ true)) (half_lk h hp0 true)
        unfold dVal
        cases d with
        | false =>
          have i1 : dM n (halfM T (σ p) false) = _ := i1
          have i2 : dM n (halfM T (σ p) true) = _ := i2
          rw [i1, i2]
        | true =>
          have i1 : dM n (halfM T (σ p) true) = _ := i1
          have i2 : dM n (halfM T (σ p) false) = _ := i2
          rw [i1, i2]
          omega
      obtain ⟨p, hp, e⟩ := dM_some hS (by omega)
      obtain ⟨q, hq, e'⟩ := dM_some hT (by omega)
      have a1 := dM_le (part_lk B h hp)
      rw [val p hp, ← e] at a1
      have hq0 := (part_mem.mp hq).1
      have hp' := part_lk B.symm (h.flip fun _ _ r => r.symm B) hq
      have a2 := dM_le hp'
      have := val _ hp'
      rw [B.at_ q hq0, ← e'] at this
      omega
/-- the points' list, renamed -/
def ren (σ : Int → Int) (P : List Int) : List Int := sortD (P.map σ)
theorem sort_lt {l : List Int} (h : l.Nodup) : (sortD l).Pairwise (· < ·) := by
  have h1 := sortD_pw l
  have h2 := List.nodup_iff_pairwise_ne.mp ((sortD_perm l).nodup_iff.mpr h)
  refine (h1.and h2).imp fun {a b} h => ?_
  have h1 : a ≤ b := of_decide_eq_true h.1
  have h2 := h.2
  omega
theorem map_nd (B : Bij n σ τ) {P : List Int} (hP : P.Nodup) (hr : ∀ x ∈ P, 0 ≤ x ∧ x < n) : (P.map σ).Nodup := by
  rw [List.nodup_iff_pairwise_ne, List.pairwise_map]
  exact (List.nodup_iff_pairwise_ne.mp hP).imp_of_mem fun {a b} ha hb hne z => hne (by rw [← B.ta a (hr a ha), ← B.ta b (hr b hb), z])
theorem ris_nd {P : List Int} (h : Ris n P) : P.Nodup := h.1.imp fun hlt => by omega
theorem ren_ris (B : Bij n σ τ) {P : List Int} (hP : Ris n P) : Ris n (ren σ P) := ⟨sort_lt (map_nd B (ris_nd hP) hP.2), fun x hx => by
  obtain ⟨y, hy, rfl⟩ := List.mem_map.mp (sortD_mem.mp hx)
  exact B.a y (hP.2 y hy)⟩
theorem ren_len (P : List Int) : (ren σ P).length = P.length := by
  unfold ren
  rw [sortD_len, List.length_map]
theorem ren_mem {P : List Int} {x : Int} : x ∈ ren σ P ↔ ∃ y ∈ P, σ y = x := by
  unfold ren
  rw [sortD_mem, List.mem_map]
theorem trc_lk (B : Bij n σ τ) {P f g f' g' : List Int} (hP : ∀ x ∈ P, 0 ≤ x ∧ x < n) (h : Lk n σ d f g) (h' : Lk n σ d f' g') : trc (ren σ P) g = trc (ren σ P) g' ↔ trc P f = trc P f' := by
  rw [trc_eq, trc_eq]
  constructor
  · intro e x hx
    have := e (σ x) (ren_mem.mpr ⟨x, hx, rfl⟩)
    rw [h x (hP x hx), h' x (hP x hx)] at this
    revert this
    cases d <;> cases memB x f <;> cases memB x f' <;> simp
  · intro e y hy
    obtain ⟨x, hx, rfl⟩ := ren_mem.mp hy
    rw [h x (hP x hx), h' x (hP x hx), e x hx]
theorem shat_lk (B : Bij n σ τ) {S T : List (List Int)} {P : List Int} (hP : Ris n P) (h : All2 (Lk n σ d) S T) (hs : Shat S P) : Shat T (ren σ P) := by
  rw [shat_iff (ris_nd hP)] at hs
  rw [shat_iff (ris_nd (ren_ris B hP))]
  intro a
  obtain ⟨f, hf, e⟩ := hs fun x => (d ^^ a (σ x))
  obtain ⟨i, hi⟩ := List.getElem?_of_mem hf
  obtain ⟨g, hg, r⟩ := h.get hi
  refine ⟨g, mem_of_get hg, fun y hy => ?_⟩
  obtain ⟨x, hx, rfl⟩ := ren_mem.mp hy
  rw [r x (hP.2 x hx), e x hx]
  cases d <;> cases a (σ x) <;> rfl
theorem tell_lk (B : Bij n σ τ) {S T : List (List Int)} {P : List Int} (hP : Ris n P) (hS : S.Nodup) (hT : T.Nodup) (h : All2 (Lk n σ d) S T) (ht : tellB S P = true) : tellB T (ren σ P) = true := inj_tell hT fun g hg g' hg' e => by
  obtain ⟨i, hi⟩ := List.getElem?_of_mem hg
  obtain ⟨j, hj⟩ := List.getElem?_of_mem hg'
  have hf := h.flip (R' := fun g f => Lk n σ d f g) fun _ _ r => r
  obtain ⟨f, hfi, r⟩ := hf.get hi
  obtain ⟨f', hfj, r'⟩ := hf.get hj
  have := tell_inj hS ht f (mem_of_get hfi) f' (mem_of_get hfj) ((trc_lk B hP.2 r r').mp e)
  subst this
  have hij := (List.getElem?_inj (lt_of_get hfi) hS).mp (hfi.trans hfj.symm)
  subst hij
  rw [hi] at hj
  exact Option.some.inj hj
theorem alone_lk (B : Bij n σ τ) {S T : List (List Int)} {P : List Int} (hP : Ris n P) (h : All2 (Lk n σ d) S T) {c : Int} (c0 : 0 ≤ c) (c1 : c < S.length) (ha : aloneB S P c = true) : aloneB T (ren σ P) c = true := by
  have hl := h.len
  rw [alone_iff c0 c1] at ha
  rw [alone_iff c0 (by omega)]
  intro i y hi hy e
  have hf := h.flip (R' := fun g f => Lk n σ d f g) fun _ _ r => r
  obtain ⟨f, hfi, r⟩ := hf.get hy
  have hc := getL_get (sets := T) c0 (by omega)
  obtain ⟨f', hfj, r'⟩ := hf.get hc
  have hc' := getL_get (sets := S) c0 c1
  rw [hc'] at hfj
  cases hfj
  exact ha i f hi hfi ((trc_lk B hP.2 r r').mp e)
end
section
variable {P M P' M' : Int} {F G : Int × List (List Int)} {σ τ : Int → Int} {d : Bool}
theorem gcut_lk1 (hF : Fam P M F) (hP : P ≤ 8) (e : F.1 = G.1) (B : Bij F.1 σ τ) (h : All2 (Lk F.1 σ d) F.2 G.2) :
    maxL (((listsM F.1).filter (fullB F.2)).map fun p => (p.length : Int)) ≤ maxL (((listsM G.1).filter (fullB G.2)).map fun p => (p.length : Int)) := by
  have h1 := hF.n1
  have h2 := hF.n2
  refine maxL_sub (fun x hx => ?_) fun z => ?_
  · obtain ⟨p, hp, rfl⟩ := List.mem_map.mp hx
    obtain ⟨a, b⟩ := List.mem_filter.mp hp
    have hr := lists_ris (by omega) a
    have hr' := ren_ris B hr
    refine List.mem_map.mpr ⟨ren σ p, List.mem_filter.mpr ⟨e ▸ lists_all ⟨by omega, by omega⟩ hr', full_shat (ris_nd hr') (shat_lk B hr h (shat_full b))⟩, ?_⟩
    rw [ren_len]
  · have hm : ([] : List Int) ∈ (listsM F.1).filter (fullB F.2) := List.mem_filter.mpr ⟨nil_lists ⟨by omega, by omega⟩, full_nil hF.ne⟩
    have := List.mem_map_of_mem (f := fun (p : List Int) => (p.length : Int)) hm
    rw [z] at this
    cases this
theorem few_lk1 (hF : Fam P M F) (hG : Fam P' M' G) (hP : P ≤ 8) (hP' : P' ≤ 8) (e : F.1 = G.1) (B : Bij F.1 σ τ) (h : All2 (Lk F.1 σ d) F.2 G.2) : (fewM G).length ≤ (fewM F).length := by
  have h1 := hF.n1
  have h2 := hF.n2
  obtain ⟨_, b, c⟩ := few_ok hF hP
  obtain ⟨a, _, _⟩ := few_ok hG hP'
  have hr := lists_ris (by omega) b
  have := find_le (fun x : List Int => x.length) (tellB G.2) (lists_by_len G.1) a (b := ren σ (fewM F)) (e ▸ lists_all ⟨by omega, by omega⟩ (ren_ris B hr)) (tell_lk B hr hF.nd hG.nd h c)
  rwa [ren_len] at this
theorem les_lk1 (hF : Fam P M F) (hG : Fam P' M' G) (hP : P ≤ 8) (hP' : P' ≤ 8) (e : F.1 = G.1) (B : Bij F.1 σ τ) (h : All2 (Lk F.1 σ d) F.2 G.2) {c : Int} (c0 : 0 ≤ c) (c1 : c < F.2.length) : (lesM G c).length ≤ (lesM F c).length := by
  have h1 := hF.n1
  have h2 := hF.n2
  have hl := h.len
  obtain ⟨_, b, q⟩ := les_ok hF hP c0 c1
  obtain ⟨a, _, _⟩ := les_ok hG hP' c0 (by omega)
  have hr := lists_ris (by omega) b
  have := find_le (fun x : List Int => x.length) (fun p => aloneB G.2 p c) (lists_by_len G.1) a (b := ren σ (lesM F c)) (e ▸ lists_all ⟨by omega, by omega⟩ (ren_ris B hr)) (alone_lk B hr h c0 c1 q)
  rwa [ren_len] at this
theorem lk_flip (B : Bij F.1 σ τ) (e : F.1 = G.1) (h : All2 (Lk F.1 σ d) F.2 G.2) : All2 (Lk G.1 τ d) G.2 F.2 := e ▸ h.flip fun _ _ r => r.symm B
theorem gcut_lk (hF : Fam P M F) (hG : Fam P' M' G) (hP : P ≤ 8) (hP' : P' ≤ 8) (e : F.1 = G.1) (B : Bij F.1 σ τ) (h : All2 (Lk F.1 σ d) F.2 G.2) :
    maxL (((listsM G.1).filter (fullB G.2)).map fun p => (p.length : Int)) = maxL (((listsM F.1).filter (fullB F.2)).map fun p => (p.length : Int)) :=
  Int.le_antisymm (gcut_lk1 hG hP' e.symm (e ▸ B.symm) (lk_flip B e h)) (gcut_lk1 hF hP e B h)
theorem few_lk (hF : Fam P M F) (hG : Fam P' M' G) (hP : P ≤ 8) (hP' : P' ≤ 8) (e : F.1 = G.1) (B : Bij F.1 σ τ) (h : All2 (Lk F.1 σ d) F.2 G.2) : (fewM G).length = (fewM F).length :=
  Nat.le_antisymm (few_lk1 hF hG hP hP' e B h) (few_lk1 hG hF hP' hP e.symm (e ▸ B.symm) (lk_flip B e h))
theorem les_lk (hF : Fam P M F) (hG : Fam P' M' G) (hP : P ≤ 8) (hP' : P' ≤ 8) (e : F.1 = G.1) (B : Bij F.1 σ τ) (h : All2 (Lk F.1 σ d) F.2 G.2) {c : Int} (c0 : 0 ≤ c) (c1 : c < F.2.length) : (lesM G c).length = (lesM F c).length :=
  Nat.le_antisymm (les_lk1 hF hG hP hP' e B h c0 c1) (les_lk1 hG hF hP' hP e.symm (e ▸ B.symm) (lk_flip B e h) c0 (by have := h.len; omega))
theorem hard_lk (hF : Fam P M F) (hG : Fam P' M' G) (hP : P ≤ 8) (hP' : P' ≤ 8) (e : F.1 = G.1) (B : Bij F.1 σ τ) (h : All2 (Lk F.1 σ d) F.2 G.2) : hardM G = hardM F := by
  unfold hardM
  rw [h.len]
  congr 1
  refine List.map_congr_left fun c hc => ?_
  have := mem_rg.mp hc
  have hl := h.len
  rw [les_lk hF hG hP hP' e B h (c := c) (by omega) (by omega)]
end
end Zk

namespace Zk
open PySem PySem.Spec PyProof.Rows L2

/-! ### mirrored, renamed families -/
def mirM (n : Int) (S : List (List Int)) : List (List Int) := S.map fun one => (rg 0 n.toNat).filter fun p => !memB p one
def ordS (order : List Int) (p : Int) : Int := (idxL order p : Int)
def renM (order : List Int) (S : List (List Int)) : List (List Int) := S.map (ren (ordS order))
section
variable {n : Int} {σ τ : Int → Int} {d : Bool}
theorem lk_inj {f f' g : List Int} (hf : Ris n f) (hf' : Ris n f') (h : Lk n σ d f g) (h' : Lk n σ d f' g) : f = f' := by
  have key : ∀ p, 0 ≤ p ∧ p < n → memB p f = memB p f' := fun p hp => by
    have a := h p hp
    rw [h' p hp] at a
    revert a
    cases d <;> cases memB p f <;> cases memB p f' <;> simp
  refine ris_ext hf.1 hf'.1 fun x => ?_
  constructor
  · intro hx
    have := key x (hf.2 x hx)
    rw [memB_t.mpr hx] at this
    exact memB_t.mp this.symm
  · intro hx
    have := key x (hf'.2 x hx)
    rw [memB_t.mpr hx] at this
    exact memB_t.mp this
theorem lk_nd {S T : List (List Int)} (h : All2 (Lk n σ d) S T) (hn : S.Nodup) (hr : ∀ f ∈ S, Ris n f) : T.Nodup := by
  induction h with
  | nil => exact .nil
  | @cons f g fs gs r hall ih =>
    rw [List.nodup_cons] at hn ⊢
    refine ⟨fun z => ?_, ih hn.2 fun f hf => hr f (List.mem_cons_of_mem _ hf)⟩
    obtain ⟨i, hi⟩ := List.getElem?_of_mem z
    obtain ⟨f', hf', r'⟩ := (hall.flip (R' := fun g f => Lk n σ d f g) fun _ _ r => r).get hi
    have hm := mem_of_get hf'
    have := lk_inj (hr f (by simp)) (hr f' (List.mem_cons_of_mem _ hm)) r r'
    subst this
    exact hn.1 hm
theorem bij_id : Bij n (fun p => p) (fun p => p) := ⟨fun _ h => h, fun _ h => h, fun _ _ => rfl, fun _ _ => rfl⟩
theorem mir_lk {f : List Int} : Lk n (fun p => p) true f ((rg 0 n.toNat).filter fun p => !memB p f) := fun p hp => by
  cases q : memB p f with
  | true =>
    show memB p _ = false
    exact memB_f.mpr fun z => by
      have := (List.mem_filter.mp z).2
      rw [q] at this
      cases this
  | false =>
    show memB p _ = true
    exact memB_t.mpr (List.mem_filter.mpr ⟨mem_rg.mpr ⟨hp.1, by omega⟩, by rw [q]; rfl⟩)
theorem mir_all (S : List (List Int)) : All2 (Lk n (fun p => p) true) S (mirM n S) := all2_map fun _ _ => mir_lk
theorem mir_fam {P M : Int} {F : Int × List (List Int)} (h : Fam P M F) : Fam P M (F.1, mirM F.1 F.2) := by
  have h1 := h.n1
  have hl : (mirM F.1 F.2).length = F.2.length := by unfold mirM; rw [List.length_map]
  have h3 := h.len
  have h4 := List.length_pos_iff.mpr h.ne
  refine ⟨h.n1, h.n2, fun z => ?_, ?_, lk_nd (mir_all F.2) h.nd h.ris, fun f hf => ?_⟩
  · have z : mirM F.1 F.2 = [] := z
    rw [z, List.length_nil] at hl
    omega
  · show ((mirM F.1 F.2).length : Int) ≤ M
    omega
  · obtain ⟨g, _, rfl⟩ := List.mem_map.mp hf
    exact (ris_rg (show ((F.1.toNat : Nat) : Int) ≤ F.1 by omega)).filter _
theorem mir_mir {S : List (List Int)} (hr : ∀ f ∈ S, Ris n f) : mirM n (mirM n S) = S := by
  unfold mirM
  rw [List.map_map]
  refine Eq.trans (List.map_congr_left (g := fun x => x) fun f hf => ?_) (List.map_id' S)
  have hf' := hr f hf
  refine ris_ext ((rg_pw 0 n.toNat).sublist List.filter_sublist) hf'.1 fun x => ?_
  show x ∈ (rg 0 n.toNat).filter (fun p => !memB p ((rg 0 n.toNat).filter fun p => !memB p f)) ↔ x ∈ f
  rw [List.mem_filter, mem_rg]
  constructor
  · rintro ⟨h1, h2⟩
    have := mir_lk (f := f) x (n := n) (by omega)
    rw [this] at h2
    revert h2
    cases q : memB x f
    · intro h; cases h
    · intro _; exact memB_t.mp q
  · intro hx
    have hb := hf'.2 x hx
    refine ⟨by omega, ?_⟩
    rw [mir_lk (f := f) x hb, memB_t.mpr hx]
    rfl

/-! ### orders -/
structure Ord (n : Int) (order : List Int) : Prop where
  p : order.Perm (rg 0 n.toNat)
theorem Ord.mem {order : List Int} (h : Ord n order) {x : Int} (hn : 0 ≤ n) : x ∈ order ↔ 0 ≤ x ∧ x < n := by
  rw [h.p.mem_iff, mem_rg]
  omega
theorem Ord.nd {order : List Int} (h : Ord n order) : order.Nodup := h.p.nodup_iff.mpr ((rg_pw 0 n.toNat).imp fun hlt => by omega)
theorem Ord.len {order : List Int} (h : Ord n order) (hn : 0 ≤ n) : (order.length : Int) = n := by
  rw [h.p.length_eq, rg_len]
  omega
theorem Ord.sort {order : List Int} (h : Ord n order) : sortD order = rg 0 n.toNat := by
  refine ris_ext (sort_lt h.nd) (rg_pw 0 n.toNat) fun x => ?_
  rw [sortD_mem, h.p.mem_iff]
theorem ord_of {order : List Int} (hn : 0 ≤ n) (hd : order.Nodup) (hr : ∀ x ∈ order, 0 ≤ x ∧ x < n) (hl : (order.length : Int) = n) : Ord n order := by
  refine ⟨(List.perm_ext_iff_of_nodup hd ((rg_pw 0 n.toNat).imp fun hlt => by omega)).mpr fun x => ?_⟩
  constructor
  · intro hx
    have := hr x hx
    exact mem_rg.mpr (by omega)
  · intro hx
    refine Classical.byContradiction fun no => ?_
    have := (List.nodup_cons.mpr ⟨no, hd⟩).length_le_of_subset (l₂ := rg 0 n.toNat) (fun y hy => by
      rcases List.mem_cons.mp hy with rfl | hy
      · exact hx
      · have := hr y hy
        exact mem_rg.mpr (by omega))
    rw [List.length_cons, rg_len] at this
    omega
theorem ordS_get {order : List Int} {p : Int} (h : p ∈ order) : order[(ordS order p).toNat]? = some p := by
  unfold ordS idxL
  rw [Int.toNat_natCast]
  exact (find_first order p h).1
theorem Ord.bij {order : List Int} (h : Ord n order) (hn : 0 ≤ n) : Bij n (ordS order) (getL order) := by
  have hl := h.len hn
  have lt : ∀ p, 0 ≤ p ∧ p < n → 0 ≤ ordS order p ∧ ordS order p < n := fun p hp => by
    have := lt_of_get (ordS_get ((h.mem hn).mpr hp))
    have h0 : 0 ≤ ordS order p := by unfold ordS; omega
    omega
  have gt : ∀ {q : Int}, 0 ≤ q ∧ q < n → order[q.toNat]? = some (getL order q) := fun {q} hq => by
    rw [getL_nn hq.1 (by omega), List.getElem?_eq_getElem]
  refine ⟨lt, fun q hq => (h.mem hn).mp (mem_of_get (gt hq)), fun p hp => ?_, fun q hq => ?_⟩
  · have a := gt (lt p hp)
    rw [ordS_get ((h.mem hn).mpr hp)] at a
    exact (Option.some.inj a).symm
  · have a := gt hq
    have hm := mem_of_get a
    have b := ordS_get hm
    have := (List.getElem?_inj (lt_of_get a) h.nd).mp (a.trans b.symm)
    have h0 : 0 ≤ ordS order (getL order q) := by unfold ordS; omega
    omega
theorem ren_lk (B : Bij n σ τ) {f : List Int} (hf : Ris n f) : Lk n σ false f (ren σ f) := fun p hp => by
  show memB (σ p) (ren σ f) = (false ^^ memB p f)
  rw [Bool.false_xor, Bool.eq_iff_iff, memB_t, memB_t, ren_mem]
  constructor
  · rintro ⟨y, hy, e⟩
    have := B.ta y (hf.2 y hy)
    rw [e, B.ta p hp] at this
    rw [this]
    exact hy
  · exact fun h => ⟨p, h, rfl⟩
theorem ren_all {order : List Int} (h : Ord n order) (hn : 0 ≤ n) {S : List (List Int)} (hr : ∀ f ∈ S, Ris n f) : All2 (Lk n (ordS order) false) S (renM order S) := all2_map fun f hf => ren_lk (h.bij hn) (hr f hf)
theorem ren_fam {P M : Int} {F : Int × List (List Int)} (h : Fam P M F) {order : List Int} (ho : Ord F.1 order) : Fam P M (F.1, renM order F.2) := by
  have h1 := h.n1
  have hl : (renM order F.2).length = F.2.length := by unfold renM; rw [List.length_map]
  have h3 := h.len
  have h4 := List.length_pos_iff.mpr h.ne
  refine ⟨h.n1, h.n2, fun z => ?_, ?_, lk_nd (ren_all ho (by omega) h.ris) h.nd h.ris, fun f hf => ?_⟩
  · have z : renM order F.2 = [] := z
    rw [z, List.length_nil] at hl
    omega
  · show ((renM order F.2).length : Int) ≤ M
    omega
  · obtain ⟨g, hg, rfl⟩ := List.mem_map.mp hf
    exact ren_ris (ho.bij (by omega)) (h.ris g hg)
/-- the order back -/
def backM (n : Int) (order : List Int) : List Int := (rg 0 n.toNat).map (ordS order)
theorem back_ord {order : List Int} (h : Ord n order) (hn : 0 ≤ n) : Ord n (backM n order) := by
  have B := h.bij hn
  have hr : ∀ x ∈ rg 0 n.toNat, 0 ≤ x ∧ x < n := fun x hx => by
    have := mem_rg.mp hx
    omega
  refine ord_of hn (map_nd B ((rg_pw 0 n.toNat).imp fun hlt => by omega) hr) (fun x hx => ?_) ?_
  · obtain ⟨y, hy, rfl⟩ := List.mem_map.mp hx
    exact B.a y (hr y hy)
  · unfold backM
    rw [List.length_map, rg_len]
    omega
theorem back_get {order : List Int} (hn : 0 ≤ n) {p : Int} (hp : 0 ≤ p ∧ p < n) : getL (backM n order) p = ordS order p := by
  have hl : ((backM n order).length : Int) = n := by unfold backM; rw [List.length_map, rg_len]; omega
  rw [getL_nn hp.1 (by omega)]
  have e : (backM n order)[p.toNat]? = some (ordS order p) := by
    unfold backM rg
    rw [List.getElem?_map, List.getElem?_map, List.getElem?_range (by omega)]
    show some (ordS order (0 + (p.toNat : Int))) = _
    rw [show (0 : Int) + (p.toNat : Int) = p by omega]
  exact (List.getElem?_eq_some_iff.mp e).2
theorem ren_back {order : List Int} (h : Ord n order) (hn : 0 ≤ n) {S : List (List Int)} (hr : ∀ f ∈ S, Ris n f) : renM (backM n order) (renM order S) = S := by
  have B := h.bij hn
  have B' := (back_ord h hn).bij hn
  have e : ∀ p, 0 ≤ p ∧ p < n → ordS (backM n order) (ordS order p) = p := fun p hp => by
    have := B'.at_ (ordS order p) (B.a p hp)
    have q := B'.ta p hp
    -- σ' (back p) = p
    have g := back_get (order := order) hn hp
    have a := B'.at_ p hp
    rw [g] at a
    exact a
  unfold renM
  rw [List.map_map]
  refine Eq.trans (List.map_congr_left (g := fun x => x) fun f hf => ?_) (List.map_id' S)
  have hf' := hr f hf
  refine ris_ext (ren_ris B' (ren_ris B hf')).1 hf'.1 fun x => ?_
  show x ∈ ren (ordS (backM n order)) (ren (ordS order) f) ↔ x ∈ f
  rw [ren_mem]
  constructor
  · rintro ⟨y, hy, rfl⟩
    obtain ⟨z, hz, rfl⟩ := ren_mem.mp hy
    rw [e z (hf'.2 z hz)]
    exact hz
  · intro hx
    exact ⟨ordS order x, ren_mem.mpr ⟨x, hx, rfl⟩, e x (hf'.2 x hx)⟩
end
theorem few_mir {P M : Int} {F : Int × List (List Int)} (h : Fam P M F) (hP : P ≤ 8) : fewM (F.1, mirM F.1 F.2) = fewM F := by
  have h1 := h.n1
  have h2 := h.n2
  have hm := mir_fam h
  have B : Bij F.1 (fun p => p) (fun p => p) := bij_id
  have hall := mir_all (n := F.1) F.2
  have id_ren : ∀ {p : List Int}, Ris F.1 p → ren (fun p => p) p = p := fun {p} hp => ris_ext (ren_ris B hp).1 hp.1 fun x => by
    rw [ren_mem]
    exact ⟨fun ⟨y, hy, e⟩ => e ▸ hy, fun hx => ⟨x, hx, rfl⟩⟩
  have e : ∀ p ∈ listsM F.1, tellB (mirM F.1 F.2) p = tellB F.2 p := fun p hp => by
    have hr := lists_ris (by omega) hp
    rw [Bool.eq_iff_iff]
    constructor
    · intro ht
      have := tell_lk B.symm hr hm.nd h.nd (hall.flip fun _ _ r => r.symm B) ht
      rwa [id_ren hr] at this
    · intro ht
      have := tell_lk B hr h.nd hm.nd hall ht
      rwa [id_ren hr] at this
  unfold fewM
  show ((listsM F.1).find? (tellB (mirM F.1 F.2))).getD _ = _
  rw [find_filter, find_filter, List.filter_congr e]
theorem ins_ord {n k : Nat} {s : List Int} (h : s.Perm (rg 0 n)) : (s.take k ++ [(0 : Int) + (n : Int)] ++ s.drop k).Perm (rg 0 (n + 1)) := by
  have e : rg 0 (n + 1) = rg 0 n ++ [0 + (n : Int)] := by
    unfold rg
    rw [List.range_succ, List.map_append]
    rfl
  rw [e, List.append_assoc]
  have a : (s.take k ++ ([(0 : Int) + (n : Int)] ++ s.drop k)).Perm ([(0 : Int) + (n : Int)] ++ (s.take k ++ s.drop k)) := List.perm_middle
  rw [List.take_append_drop] at a
  exact a.trans ((List.Perm.append_left _ h).trans List.perm_append_comm)
end Zk

namespace Zk
open PySem PySem.Spec PyProof.Rows L2

/-! ### trees: (tag,), (tag, number), ("ask", point, tree, tree) -/
inductive TR where
  | lf (s : Str) (o : Option Int)
  | nd (p : Int) (l r : TR)
  deriving DecidableEq
namespace TR
def enc : TR → PyData
  | .lf s none => .tuple [.str s]
  | .lf s (some i) => .tuple [.str s, .int i]
  | .nd p l r => .tuple [.str "ask", .int p, enc l, enc r]
def tag : TR → Str
  | .lf s _ => s
  | .nd _ _ _ => "ask"
def len : TR → Int
  | .lf _ none => 1
  | .lf _ (some _) => 2
  | .nd _ _ _ => 4
def arg : TR → Int
  | .lf _ (some i) => i
  | .nd p _ _ => p
  | _ => 0
def lo : TR → TR
  | .nd _ l _ => l
  | t => t
def hi : TR → TR
  | .nd _ _ r => r
  | t => t
/-- a place that is there -/
def HasArg (t : TR) : Prop := t.len ≠ 1
def IsNd (t : TR) : Prop := t.len = 4
def dep : TR → Nat
  | .lf _ _ => 1
  | .nd _ l r => max l.dep r.dep + 1
def parts : TR → List PyData
  | .lf s none => [.str s]
  | .lf s (some i) => [.str s, .int i]
  | .nd p l r => [.str "ask", .int p, enc l, enc r]
theorem enc_parts : ∀ t : TR, t.enc = .tuple t.parts
  | .lf _ none => rfl
  | .lf _ (some _) => rfl
  | .nd _ _ _ => rfl
end TR
instance pyTR : Py TR := ⟨TR.enc⟩
theorem tr_enc (t : TR) : Py.enc t = .tuple t.parts := t.enc_parts
theorem tr_eqv : ∀ a b : TR, PyData.eqv a.enc b.enc = decide (a = b)
  | .lf s none, .lf s' none => by
    simp only [TR.enc, PyData.eqv, PyData.eqvAll]
    by_cases h : s = s' <;> simp [h]
  | .lf s (some i), .lf s' (some j) => by
    simp only [TR.enc, PyData.eqv, PyData.eqvAll]
    by_cases h : s = s' <;> by_cases h' : i = j <;> simp [h, h']
  | .lf s none, .lf s' (some j) => by simp [TR.enc, PyData.eqv, PyData.eqvAll]
  | .lf s (some i), .lf s' none => by simp [TR.enc, PyData.eqv, PyData.eqvAll]
  | .lf s none, .nd p l r => by simp [TR.enc, PyData.eqv, PyData.eqvAll]
  | .lf s (some i), .nd p l r => by simp [TR.enc, PyData.eqv, PyData.eqvAll]
  | .nd p l r, .lf s none => by simp [TR.enc, PyData.eqv, PyData.eqvAll]
  | .nd p l r, .lf s (some i) => by simp [TR.enc, PyData.eqv, PyData.eqvAll]
  | .nd p l r, .nd p' l' r' => by
    simp only [TR.enc, PyData.eqv, PyData.eqvAll, tr_eqv l l', tr_eqv r r']
    by_cases h : p = p' <;> by_cases h' : l = l' <;> by_cases h2 : r = r' <;> simp [h, h', h2]
/-- written tags -/
def TR.okT : TR → Bool
  | .lf s _ => PyData.strOk s
  | .nd _ l r => l.okT && r.okT
theorem tr_lay : ∀ t : TR, t.okT = true → t.enc.canLay0 = true
  | .lf s none, h => by simp [TR.enc, PyData.canLay0, PyData.canLayAll0]; exact h
  | .lf s (some i), h => by simp [TR.enc, PyData.canLay0, PyData.canLayAll0]; exact h
  | .nd p l r, h => by
    have h : (l.okT && r.okT) = true := h
    rw [Bool.and_eq_true] at h
    simp only [TR.enc, PyData.canLay0, PyData.canLayAll0, tr_lay l h.1, tr_lay r h.2]
    decide +kernel
theorem tr_depth : ∀ t : TR, t.enc.depth ≤ t.dep
  | .lf s none => by simp [TR.enc, PyData.depth, PyData.depthAll, TR.dep]
  | .lf s (some i) => by simp [TR.enc, PyData.depth, PyData.depthAll, TR.dep]
  | .nd p l r => by
    have h1 := tr_depth l
    have h2 := tr_depth r
    simp only [TR.enc, PyData.depth, PyData.depthAll, TR.dep]
    omega
/-- a tree that may be compared -/
def TR.Cmp (t : TR) : Prop := t.okT = true ∧ t.dep ≤ 64
theorem tr_shaped {t : TR} (h : t.Cmp) : SeqAt.shaped t.enc = true := by
  unfold SeqAt.shaped
  rw [tr_lay t h.1, decide_eq_true (Nat.le_trans (tr_depth t) h.2)]
  rfl
section
variable {X : Cx} {b : Bs} {N : List Str} {sc : Scope} {mg : Str → Option Value} {W : Str → Bool} {Γ : List En} {lv la lb lc : Lv} {pos pp : Pos} {e e1 e2 e3 e4 : Expr}
theorem xe_as {α β : Type} [Py α] [Py β] {p : α} {q : β} (h : XE X b e Γ lv p) (hq : Py.enc p = Py.enc q) : XE X b e Γ lv q := by
  show PE X e (tE X.K b Γ lv (Py.enc q))
  rw [← hq]
  exact h
theorem xe_trTag {t : TR} {j} (h : XE X b e Γ la t) (hs : PlainIx (.Constant (.int 0) j pp)) : XE X b (.Subscript e (.Constant (.int 0) j pp) pos) Γ la t.tag :=
  xe_ixT (lb := .bor) h (tr_enc t) xe_int (by
    cases t with
    | lf s o => cases o <;> rfl
    | nd p l r => rfl) hs
theorem xe_trArg {t : TR} {j} (ht : t.HasArg) (h : XE X b e Γ la t) (hs : PlainIx (.Constant (.int 1) j pp)) : XE X b (.Subscript e (.Constant (.int 1) j pp) pos) Γ la t.arg :=
  xe_ixT (lb := .bor) h (tr_enc t) xe_int (by
    cases t with
    | lf s o =>
      cases o with
      | none => exact absurd rfl ht
      | some i => rfl
    | nd p l r => rfl) hs
theorem xe_trLo {t : TR} {j} (ht : t.IsNd) (h : XE X b e Γ la t) (hs : PlainIx (.Constant (.int 2) j pp)) : XE X b (.Subscript e (.Constant (.int 2) j pp) pos) Γ la t.lo :=
  xe_ixT (lb := .bor) h (tr_enc t) xe_int (by
    cases t with
    | lf s o =>
      cases o with
      | none => exact absurd (show (1 : Int) = 4 from ht) (by decide)
      | some i => exact absurd (show (2 : Int) = 4 from ht) (by decide)
    | nd p l r => rfl) hs
theorem xe_trHi {t : TR} {j} (ht : t.IsNd) (h : XE X b e Γ la t) (hs : PlainIx (.Constant (.int 3) j pp)) : XE X b (.Subscript e (.Constant (.int 3) j pp) pos) Γ la t.hi :=
  xe_ixT (lb := .bor) h (tr_enc t) xe_int (by
    cases t with
    | lf s o =>
      cases o with
      | none => exact absurd (show (1 : Int) = 4 from ht) (by decide)
      | some i => exact absurd (show (2 : Int) = 4 from ht) (by decide)
    | nd p l r => rfl) hs
theorem cl_lenTR {t : TR} : CalV X b (.builtin "len") [(la, Py.enc t)] lc (Py.enc t.len) := by
  have h := cl_lenT (X := X) (b := b) (la := la) (lc := lc) (p := t) (tr_enc t)
  have e : ((t.parts.length : Nat) : Int) = t.len := by
    cases t with
    | lf s o => cases o <;> rfl
    | nd p l r => rfl
  rw [e] at h
  exact h
theorem cv_eqTR (cf : Cf X N sc mg W) {s t : TR} (hs : s.Cmp) (ht : t.Cmp) : CmpV X b .Eq la lb (Py.enc s) (Py.enc t) (decide (s = t)) :=
  ⟨_, op_eqD (Nat.lt_of_le_of_lt (by omega) cf.un), fun F H v w Q fz d1 d2 k => ⟨_, _, dq_dp _ _ (tr_lay s hs.1) (dq_mo (sel_le fz.h _) _ _ d1), dq_dp _ _ (tr_lay t ht.1) (dq_mo (sel_le fz.h _) _ _ d2), tr_shaped hs, tr_shaped ht, by
    show Q (.bl (PyData.eqv s.enc t.enc)) H
    rw [tr_eqv]; exact k⟩⟩
theorem cv_neTR (cf : Cf X N sc mg W) {s t : TR} (hs : s.Cmp) (ht : t.Cmp) : CmpV X b .NotEq la lb (Py.enc s) (Py.enc t) (!decide (s = t)) :=
  ⟨_, op_neD (Nat.lt_of_le_of_lt (by omega) cf.un), fun F H v w Q fz d1 d2 k => ⟨_, _, dq_dp _ _ (tr_lay s hs.1) (dq_mo (sel_le fz.h _) _ _ d1), dq_dp _ _ (tr_lay t ht.1) (dq_mo (sel_le fz.h _) _ _ d2), tr_shaped hs, tr_shaped ht, by
    show Q (.bl (!PyData.eqv s.enc t.enc)) H
    rw [tr_eqv]; exact k⟩⟩
end

/-! ### objects of one field -/
/-- where the classes stand -/
class CA where
  q : Addr
  c : Addr
  f : Addr
structure ObQ where
  t : TR
  deriving DecidableEq
structure ObC where
  t : TR
  deriving DecidableEq
def obD (C : Addr) (f : Str) (d : PyData) : PyData := .dict [(.int (C : Int), .str f), (.none, d)]
instance pyObQ [CA] : Py ObQ := ⟨fun o => obD CA.q "tree" (Py.enc o.t)⟩
instance pyObC [CA] : Py ObC := ⟨fun o => obD CA.c "tree" (Py.enc o.t)⟩
theorem dp_obj {H : Hp} {v : V} {C : Addr} {f : Str} {d : PyData} (h : Dq H v (obD C f d)) : ∃ a dx u, v = .ref a ∧ H a = some (.ins C dx [(f, u)]) ∧ H dx = some (.own a) ∧ Dq H u d := by
  unfold obD at h
  generalize hk : (PyData.dict [(.int (C : Int), .str f), (.none, d)]) = k at h
  cases h with
  | obj h1 h2 h3 =>
    simp only [PyData.dict.injEq, List.cons.injEq, Prod.mk.injEq, PyData.int.injEq, PyData.str.injEq, and_true, true_and] at hk
    obtain ⟨⟨hC, rfl⟩, rfl⟩ := hk
    have hC : C = _ := Int.ofNat.inj hC
    subst hC
    exact ⟨_, _, _, rfl, h1, h2, h3⟩
  | _ => cases hk
/-- what is known of a class -/
structure ObAt (t : Tx) (x : Str) (C : Addr) (st : Stmt) : Prop where
  cl : Cls t.K C
  no : NoAttr t.K C "tree"
  mg : t.mg x = some (.ref C)
  ini : ∃ f fd, Mk t.K C f ∧ Fun t.K "__init__" (x ++ ".__init__") st f fd
def spInit (C : Addr) : Sp := fun vs H Q _ => ∃ (p dx : Addr) (v : V), vs = [.ref p, v] ∧ H p = some (.ins C dx []) ∧ Q .non (upd H p (.ins C dx [("tree", v)]))
structure InitS (st : Stmt) : Prop where
  sc : FnScope ["self", "tree"] ["self", "tree"] (defScope st)
  bd : ∃ p1 p2 p3 p4, defBody st = [.Assign [.Attribute (.Name "self" p1) "tree" p2] (.Name "tree" p3) p4]
  vs : (defScope st).names.lookup ("self" : Str) = some .local ∧ (defScope st).names.lookup ("tree" : Str) = some .local
section
variable {t : Tx} {x : Str} {C : Addr} {st : Stmt} {f : Addr} {fd : FuncData}
theorem init_ok {q : Str} (F : Fun t.K "__init__" q st f fd) (S : InitS st) (cl : Cls t.K C) (no : NoAttr t.K C "tree") : FnOk t.P t.w t.K t.mg t.base CX0 1 f fd ["self", "tree"] (spInit C) := by
  refine F.ok S.sc (fun vs H Q E h => ?_) (fun cdv A outer s H vs Q E hr h => ?_)
  · obtain ⟨p, dx, v, rfl, _⟩ := h
    rfl
  · obtain ⟨p1, p2, p3, p4, hb⟩ := S.bd
    obtain ⟨v1, v2⟩ := S.vs
    rw [hb]
    refine ⟨sFld t.K (tVar 0) (tVar 1) "tree", pss_one (ps_fld (pe_var (i := 0) rfl (.inl v1)) (pe_var (i := 1) rfl (.inl v2)) rfl), ?_⟩
    obtain ⟨p, dx, v, rfl, hp, k⟩ := h
    exact ⟨v, rfl, _, rfl, p, C, dx, [], rfl, hp, cl, no, (by show 0 < 1000; decide), k⟩
variable {X : Cx} {b : Bs} {N : List Str} {sc : Scope} {mg : Str → Option Value} {W : Str → Bool} {Γ : List En} {k : Nat} {kk : Bool} {pos pp apos : Pos} {e : Expr} {lv la lc : Lv}
variable {α β : Type} [Py α] [Py β]
/-- C(e) -/
theorem xe_make {p : α} {q : β} (c : Cf X N sc mg W) (a : At X t k) (O : ObAt t x C st) (S : InitS st) (hk : Nat.ble 2 k = true) (hg : sc.names.lookup x = some .globalImplicit) (hq : Py.enc q = obD C "tree" (Py.enc p))
    (he : XE X b e Γ (.st kk) p) (hbd : ∀ (kV doc pm : Value) (an : Option Addr) (cdv ct : Value) (us : List Value), us.length = (["self", "tree"] : List Str).length → bindArgs (PySem.W.fnOf "__init__" (x ++ ".__init__") (defArgs st) (defBody st) (defScope st) .none kV doc pm an cdv ct) ⟨us, []⟩ = pure ((["self", "tree"] : List Str).zip us))
    (hdb : (x == ("__debug__" : Str)) = false := by decide) (hs : starEach [e] X.env = (false, eval e X.env) :: starEach [] X.env := by rfl) (hpl : (backTo pos (starEach [] X.env)).any (·.1) = false := by rfl) :
    XE X b (.Call (.Name x pp) [e] [] pos) Γ (.st kk) q := by
  obtain ⟨f, fd, M, Fn⟩   := O.ini
  refine PE.wk (pe_make (f := f) (C := C) (by rw [a.hK]; exact M) (fn_at a (init_ok Fn S O.cl O.no)) (a.hr.mono (Nat.le_of_ble_eq_true hk)) (show X.env.scope.names.lookup x = _ by rw [c.hs]; exact hg) (by rw [a.hm]; exact O.mg) (by rw [a.hK]; exact Fn.binds hbd) .nil pass0 (xa_cons he xa_nil hs) hdb hs hpl) ?_
  rintro σ H Q ⟨F, ok, kq⟩
  refine ⟨F, ok, fun vs F1 H1 g1 d1 y dx hy hdx hne => ?_⟩
  obtain ⟨v, rfl, d⟩ := dql1 d1
  have fz := (ok.gr g1).fr
  refine ⟨y, dx, v, rfl, upd_same, rfl, ?_⟩
  rw [upd_upd]
  have ny : upd H1 dx (.own y) y = none := by rw [upd_ne (Ne.symm hne)]; exact hy
  have ga : Grow F1 H1 (upd F1 dx (.own y)) (upd H1 dx (.own y)) := Grow.new g1.h hdx
  have gb := Grow.new (o := .ins C dx [("tree", v)]) ga.h ny
  have g2 := ga.tr gb
  refine kq _ _ _ (g1.tr g2) ?_
  rw [hq]
  unfold obD
  have d' : Dq (sel2 b.B F1 kk) v (Py.enc p) := d
  refine .obj (dx := dx) ?_ ?_ (dq_mo (sel2_mo g2.f kk) _ _ d')
  · exact sel2_at (fz.b.no hy) upd_same rfl kk
  · exact sel2_at (fz.b.no hdx) (by rw [upd_ne hne]; exact upd_same) rfl kk
/-- e.tree -/
theorem xe_fld {p : α} {q : β} (a : At X t k) (O : ObAt t x C st) (hq : Py.enc q = obD C "tree" (Py.enc p)) (h : XE X b e Γ la q) (hb : attributeBase e "tree" X.env (eval e X.env) = eval e X.env := by rfl) : XE X b (.Attribute e "tree" apos) Γ la p :=
  PE.wk (pe_fld h hb) fun σ H Q ⟨F, ok, kq⟩ => ⟨F, ok, fun v F1 H1 g1 d1 => by
    rw [hq] at d1
    have fz := (ok.gr g1).fr
    obtain ⟨y, dx, u, rfl, h1, h2, h3⟩ := dp_obj d1
    exact ⟨y, C, dx, _, u, rfl, sel_le fz.h _ _ _ h1, by rw [a.hK]; exact O.cl, by rw [a.hK]; exact O.no, by simp [List.lookup], kq u F1 H1 g1 h3⟩⟩
/-- a method, by data -/
structure MethAt (t : Tx) (C : Addr) (m : Str) (j : Nat) (ps : List Str) (sp : Sp) : Prop where
  ex : ∃ f fd, FnOk t.P t.w t.K t.mg t.base CX0 j f fd ps sp ∧ Meth t.K C m f ∧ Binds t.K fd ps []
structure DefM (t : Tx) (C : Addr) (m q : Str) (st : Stmt) : Prop where
  ex : ∃ f fd, Fun t.K m q st f fd ∧ Meth t.K C m f
theorem meth_def {ι : Type} {rl : Bool} {ins : ι → List En} {out : ι → PyData} {ps : List Str} {m q : Str} (D : DefM t C m q st) (S : FnScope N ps (defScope st))
    (hb : ∀ (kV doc pm : Value) (an : Option Addr) (cdv ct : Value) (us : List Value), us.length = ps.length → bindArgs (PySem.W.fnOf m q (defArgs st) (defBody st) (defScope st) .none kV doc pm an cdv ct) ⟨us, []⟩ = pure (ps.zip us))
    (hl : ∀ i, (ins i).length = ps.length)
    (body : ∀ (X : Cx) (b : Bs) (i : ι), Cf X N (defScope st) t.mg (fun _ => true) → At X t k → b.R = List.replicate N.length .no → PSs X (defBody st) (tS X.K b rl (ins i ++ List.replicate (N.length - ps.length) .no) (some (out i)) [])) :
    MethAt t C m (k + 1) ps (spI rl ins out) := by
  obtain ⟨f, fd, F, hm⟩ := D.ex
  exact ⟨f, fd, fn_ok F S hl fun X b i c a hR => ⟨_, body X b i c a hR⟩, hm, F.binds hb⟩
/-- o.m(e, ..) -/
theorem xe_meth {ι : Type} {rl : Bool} {ins : ι → List En} {out : ι → PyData} {ps : List Str} {m : Str} {j : Nat} {o : Expr} {es : List Expr} {ds : List (Lv × PyData)} {q : β} {p : α} {d : PyData} {pl : Sem Bool} (c : Cf X N sc mg W) (a : At X t k) (O : ObAt t x C st) (G : MethAt t C m j ps (spI rl ins out)) (hj : Nat.ble j k = true)
    (hq : Py.enc q = obD C "tree" d) (hmt : (m == ("tree" : Str)) = false) (i : ι) (ho : XE X b o Γ (.st kk) q) (ha : XA X b (e :: es) Γ ds) (fit : Fit ((.st kk, Py.enc q) :: ds) (ins i)) (hp : out i = Py.enc p := by rfl)
    (he : starEach (e :: es) X.env = (false, eval e X.env) :: starEach es X.env := by rfl) (hpl : (backTo pos (starEach es X.env)).any (·.1) = false := by rfl)
    (ht : eval (.Call (.Attribute o m apos) (e :: es) [] pos) X.env = (do
      let ov ← eval o X.env
      standAt apos.atName
      let (f, first) ← holding [ov] (getMethod ov m pl)
      callWith pos f first (backTo pos (starEach (e :: es) X.env)) (backToKw pos (keywordEach [] X.env))) := by rfl) :
    XE X b (.Call (.Attribute o m apos) (e :: es) [] pos) Γ (.st rl) p := by
  obtain ⟨f, fd, G, hm, hb⟩ := G.ex
  refine PE.wk (pe_meth (pl := pl) ho (by rw [a.hK]; exact O.cl) (by rw [a.hK]; exact hm) (fn_at a G) (a.hr.mono (Nat.le_of_ble_eq_true hj)) (by rw [a.hK]; exact hb) .nil pass0 ha he hpl ht) ?_
  rintro σ H Q ⟨F, ok, kq⟩
  refine ⟨F, ok, fun v F1 H1 g1 d1 => ?_⟩
  have d1' := d1
  rw [hq] at d1'
  have fz := (ok.gr g1).fr
  obtain ⟨y, dx, u, rfl, h1, h2, h3⟩ := dp_obj d1'
  refine ⟨y, dx, _, rfl, sel_le fz.h _ _ _ h1, by simp [List.lookup, hmt], F1, ok.gr g1, fun vs F2 H2 g2 d2 => ?_⟩
  have fz2 := ((ok.gr g1).gr g2).fr
  refine ⟨F2, i, g2.h, ?_, fun w F' H' g d => kq w F' H' ((g1.tr g2).tr g) ?_⟩
  · rw [List.append_nil]
    exact fit.ok (.cons (dq_mo (sel_mo g2 _) _ _ d1) d2)
  · rw [hp] at d
    refine dq_mo (fun l o q => ?_) _ _ d
    cases rl with
    | false => exact q
    | true =>
      show sel2 b.B F' true l = some o
      have q : sel2 H2 F' true l = some o := q
      simp only [sel2] at q ⊢
      cases z : H2 l with
      | none => rw [z] at q; rw [fz2.b.no z]; exact q
      | some u => rw [z] at q; cases q
end
end Zk

namespace Zk
open PySem PySem.Spec PyProof.Rows L2

/-! ### while that may hand back -/
def loopW {S β : Type} (o : S → Option β) (c : S → Bool) (step : S → S) : Nat → S → Option β × S
  | 0, s => (none, s)
  | n + 1, s => if c s = true then (match o s with
    | some r => (some r, s)
    | none => loopW o c step n (step s)) else (none, s)
inductive WRo {S β : Type} (o : S → Option β) (c : S → Bool) (step : S → S) (s0 : S) : S → Prop
  | z : WRo o c step s0 s0
  | s {s : S} : WRo o c step s0 s → c s = true → o s = none → WRo o c step s0 (step s)
section
variable {X : Cx} {b : Bs} {N : List Str} {sc : Scope} {mg : Str → Option Value} {W : Str → Bool} {Γ Γ' Γ1 Γ2 : List En} {k rl : Bool} {pos apos cpos p1 : Pos} {t tg e1 e2 : Expr} {la lb lc : Lv} {body rest : List Stmt}
variable {S α β : Type} [ia : Py α] [Py β]
theorem xs_whileR {Γs : S → List En} {o : S → Option β} {c : S → Bool} {step : S → S} (n : Nat) (s0 : S) (cf : Cf X N sc mg W) (hΓ : Sub Γ (Γs s0)) (hn : (loopW o c step n s0).1 = none → c (loopW o c step n s0).2 = false)
    (ht : ∀ s, WRo o c step s0 s → XT X b t (Γs s) (c s)) (hb : ∀ s, WRo o c step s0 s → c s = true → XB X b rl body (Γs s) (o s) (Γs (step s))) :
    XS X b rl (.While t body [] pos) Γ (loopW o c step n s0).1 (Γs (loopW o c step n s0).2) := by
  refine PS.wk (ps_while
    (tc := fun σ H Q => ∃ s, WRo o c step s0 s ∧ tT X.K b (Γs s) (c s) σ H Q)
    (tb := fun D σ H => ∃ s, (WRo o c step s0 s ∧ c s = true) ∧ tS X.K b rl (Γs s) ((o s).map Py.enc) (Γs (step s)) D σ H)
    cf.pass ⟨fun pins s' σ H Q I h => ?_⟩ ⟨fun pins s' σ H D I h => ?_⟩) ?_
  · obtain ⟨s, hv, h⟩ := h
    exact (ht s hv).run _ _ _ _ _ I h
  · obtain ⟨s, ⟨hv, hc⟩, h⟩ := h
    exact (hb s hv hc).run _ _ _ _ _ I h
  · rintro D σ H ⟨F0, ok0, kk⟩
    refine ⟨fun m σ H => ∃ F s, Ex F0 F ∧ EnvOk X.K b F H σ (Γs s) ∧ WRo o c step s0 s ∧ loopW o c step m s = loopW o c step n s0, ⟨n, F0, s0, Ex.rf F0, ok0.sub hΓ, .z, rfl⟩, ?_⟩
    rintro m σ H ⟨F, s, eF, ok, hv, hrun⟩
    refine ⟨s, hv, F, ok, fun F1 H1 g1 => ?_⟩
    cases hc : c s with
    | false =>
      refine iteF ?_
      have hs : loopW o c step m s = (none, s) := by
        cases m with
        | zero => rfl
        | succ m => show (if c s = true then _ else (none, s)) = (none, s); rw [hc]; rfl
      rw [hs] at hrun
      rw [← hrun] at kk
      exact kk σ F1 H1 (eF.tr g1.f) (ok.gr g1)
    | true =>
      cases m with
      | zero =>
        have hrun : (none, s) = loopW o c step n s0 := hrun
        rw [← hrun] at hn
        have := hn rfl
        rw [hc] at this
        cases this
      | succ m =>
        have hrun : (if c s = true then (match o s with | some r => (some r, s) | none => loopW o c step m (step s)) else (none, s)) = loopW o c step n s0 := hrun
        rw [if_pos hc] at hrun
        refine iteT ⟨fun σ' H' => ∃ F s', Ex F0 F ∧ EnvOk X.K b F H' σ' (Γs s') ∧ WRo o c step s0 s' ∧ loopW o c step m s' = loopW o c step n s0, fun σ' H' h' => ⟨m, Nat.lt_succ_self _, h'⟩, s, ⟨hv, hc⟩, F1, ok.gr g1, ?_⟩
        cases ho : o s with
        | some r =>
          rw [ho] at hrun
          have hrun : (some r, s) = loopW o c step n s0 := hrun
          rw [← hrun] at kk
          exact tS_some (Γ' := Γs (step s)) kk rfl (eF.tr g1.f)
        | none =>
          rw [ho] at hrun
          have hrun : loopW o c step m (step s) = loopW o c step n s0 := hrun
          exact fun σ' F' H' e' ok' => ⟨F', step s, eF.tr (g1.f.tr e'), ok', .s hv hc ho, hrun⟩
theorem xb_whiler {Γs : S → List En} {o : S → Option β} {c : S → Bool} {step : S → S} {r2 : S → β} {Γe : List En} (n : Nat) (s0 : S) (cf : Cf X N sc mg W) (hΓ : Sub Γ (Γs s0)) (hn : (loopW o c step n s0).1 = none → c (loopW o c step n s0).2 = false)
    (ht : ∀ s, WRo o c step s0 s → XT X b t (Γs s) (c s)) (hb : ∀ s, WRo o c step s0 s → c s = true → XB X b rl body (Γs s) (o s) (Γs (step s)))
    (hr : ∀ s, (loopW o c step n s0).1 = none → s = (loopW o c step n s0).2 → XB X b rl rest (Γs s) (some (r2 s)) Γe) :
    XB X b rl (.While t body [] pos :: rest) Γ (some ((loopW o c step n s0).1.getD (r2 (loopW o c step n s0).2))) Γe := by
  have h := xs_whileR (pos := pos) n s0 cf hΓ hn ht hb
  revert h hr
  generalize loopW o c step n s0 = z
  obtain ⟨z1, z2⟩ := z
  intro hr h
  cases z1 with
  | none => exact xb_seq h (hr _ rfl rfl)
  | some r => exact PSs.wk (pss_cons h pss_never) fun D σ H ⟨F, ok, kk⟩ => ⟨F, ok, tS_some (Γ' := Γs z2) kk rfl (Ex.rf F)⟩
/-! ### x = xs.pop() -/
def lastL {α : Type} [Inhabited α] (xs : List α) : α := xs.getLast?.getD default
instance : Inhabited TR := ⟨.lf "" none⟩
instance {α β γ : Type} [Inhabited α] [Inhabited β] [Inhabited γ] : Inhabited (T3 α β γ) := ⟨⟨default, default, default⟩⟩
theorem lastL_at {α : Type} [Inhabited α] {xs : List α} (h : xs ≠ []) : xs[xs.length - 1]? = some (lastL xs) := by
  unfold lastL
  rw [← List.getLast?_eq_getElem?]
  cases q : xs.getLast? with
  | none => exact absurd (List.getLast?_eq_none_iff.mp q) h
  | some y => rfl
theorem dqa_last {H : Hp} {vs : List V} {ds : List PyData} (h : DqAll H vs ds) : DqAll H vs.dropLast ds.dropLast := by
  rw [List.dropLast_eq_take, List.dropLast_eq_take, dqa_len h]
  exact dqa_take _ h
theorem xs_pop [Inhabited α] {x : Str} {j : Nat} {xs : List α} {js : List Nat} (cf : Cf X N sc mg W) (hN : N[j]? = some x) (hv : Vis sc x) (hΓ : Γ[j]? = some (.res (ownR α k xs))) (hne : xs ≠ [])
    (hg : XG X b tg (Γ.set j (.res (ownR α k xs.dropLast))) k (lastL xs) js Γ') (hd : (x == ("__debug__" : Str)) = false := by decide) (hcd : (x == ("__classdict__" : Str)) = false := by decide)
    (hbase : attributeBase (.Name x p1) "pop" X.env (eval (.Name x p1) X.env) = eval (.Name x p1) X.env := by rfl) (hline : (apos.endLine == cpos.line) = true := by rfl)
    (hs : swapsWithSole [tg] (.Call (.Attribute (.Name x p1) "pop" apos) [] [] cpos) pos.line X.env = pure false := by rfl) (hw : swappedStores [tg] (.Call (.Attribute (.Name x p1) "pop" apos) [] [] cpos) X.env = pure none := by rfl)
    (h1 : (assignEach [tg] X.env).map (·.2) = [assign tg X.env] := by rfl) :
    XS X b rl (.Assign [tg] (.Call (.Attribute (.Name x p1) "pop" apos) [] [] cpos) pos) Γ (none : Option β) Γ' := by
  refine PS.wk (ps_asg (pe_bm0 PySem.F.plainAttrs_list PySem.F.slot_list_pop PySem.F.type_list_pop mt_pop (pe_var (i := j) (by rw [cf.hN]; exact hN) (by rw [cf.hs]; exact hv) hd hcd) hbase hline) hg hs hw h1) fun D σ H ⟨F, ok, kk⟩ => ?_
  obtain ⟨v, A, hσ, ⟨l, vs, rfl, hA, hl, hz', d⟩, hAl, mu⟩ := ok.mut hΓ
  have hlen : vs.length = xs.length := by rw [dqa_len d, List.length_map]
  have hat : (xs.map Py.enc)[vs.length - 1]? = some (Py.enc (lastL xs)) := by
    rw [hlen, List.getElem?_map, lastL_at hne]
    rfl
  obtain ⟨y, hy, dy⟩ := dqa_getd d hat
  have ok2 := mu (upd H l (.lst vs.dropLast)) (ownR α k xs.dropLast) (fun m hm => upd_ne fun z => hm ((hA m).mpr z)) (fun m hm => by
    rw [(hA m).mp hm, upd_same]; exact fun z => by cases z) ⟨l, vs.dropLast, rfl, hA, upd_same, by rw [List.length_dropLast]; omega, by
    rw [List.map_dropLast]
    exact dqa_last d⟩
  exact ⟨_, hσ, .inl ⟨rfl, vs, .inl (.inl hl)⟩, l, vs, y, rfl, rfl, hl, hy, F, ok2, dy, fun σ' ok' _ _ => kk σ' F _ (Ex.rf F) ok'⟩
theorem ble_rf (n : Nat) : Nat.ble n n = true := Nat.ble_eq.mpr (Nat.le_refl n)
/-! ### xs != [] -/
def rNeNil : R2 := fun x y H Q => ∃ a b xs, x = V.ref a ∧ y = V.ref b ∧ Rd H a (.lst xs) ∧ Rd H b (.lst []) ∧ Q (.bl (!decide (xs.length = 0))) H
theorem op_neNil (hu : X.A.units < cLine) : OpR X (compareOp .NotEq) rNeNil := by
  intro pins s σ H x y v u Q I rx ry h
  obtain ⟨a, c, xs, rfl, rfl, ha, hc, q⟩ := h
  cases rx
  cases ry
  obtain ⟨its, rv, hl, _⟩ := I.list (.inl ha)
  obtain ⟨its2, rv2, hl2, _⟩ := I.list (.inl hc)
  have e1 := rv.length
  have e2 := rv2.length
  have e2 : its2.length = 0 := e2.symm
  by_cases z : xs.length = 0
  · rw [decide_eq_true z] at q
    suffices r0 : SeqAt.RcNeAt X.A s (.ref a) (.ref c) false by
      exact r0 X.prog X.w _ _ ⟨.bl false, H, I, rfl, q⟩
    have r := SeqAt.RcNeAt.lists (A := X.A) (e := fun _ => true) hl.isList hl2.isList (by rw [List.size_toArray, List.size_toArray]; omega) hu (fun j h1 => absurd h1 (by rw [List.size_toArray]; omega))
    rwa [show (!(List.range its.toArray.size).all fun _ => true) = false by rw [List.size_toArray, ← e1, z]; rfl] at r
  · rw [decide_eq_false z] at q
    exact SeqAt.RcNeAt.lists_lengths hl.isList hl2.isList (by rw [List.size_toArray, List.size_toArray, bne_iff_ne]; omega) hu X.prog X.w _ _ ⟨.bl true, H, I, rfl, q⟩
theorem cv_neNil [DecidableEq α] (cf : Cf X N sc mg W) {xs : List α} : CmpV X b .NotEq la lb (Py.enc xs) (Py.enc ([] : List α)) (!decide (xs = [])) := ⟨_, op_neNil (by have := cf.un; omega), fun F H v w Q fz d1 d2 k => by
  obtain ⟨a, vs, rfl, hq, _, hall⟩ := dp_lst d1
  obtain ⟨a2, vs2, rfl, hq2, _, hall2⟩ := dp_lst d2
  have e2 : vs2 = [] := by
    have := dqa_len hall2
    exact List.length_eq_zero_iff.mp this
  subst e2
  have e : decide (xs = []) = decide (vs.length = 0) := by
    have := dqa_len hall
    rw [List.length_map] at this
    rw [this]
    cases xs <;> simp
  rw [e] at k
  exact ⟨a, a2, vs, rfl, rfl, rd_sel fz hq, rd_sel fz hq2, k⟩⟩
/-! ### is, of truths -/
theorem cv_isB {p q : Bool} : CmpV X b .Is la lb (Py.enc p) (Py.enc q) (decide (p = q)) := ⟨_, op_isBl, fun F H v w Q fz d1 d2 k => ⟨p, q, dp_bl d1, dp_bl d2, k⟩⟩
end
end Zk

namespace Zk
open PySem PySem.Spec PyProof.Rows L2

/-! ### what a tree of questions finds, what a tree of cases forces -/
def findR (F : Int × List (List Int)) : TR → List (List Int) → Int → Bool
  | .lf s none, _, _ => false
  | .lf s (some i), S, left => decide (s = ("is" : Str)) && (decide (0 ≤ i ∧ i < (F.2.length : Int)) && (memB S [[], [getL F.2 i]] && decide (left ≥ 0)))
  | .nd p l r, S, left => decide (0 ≤ p ∧ p < F.1) && (findR F l (halfM S p false) (left - 1) && findR F r (halfM S p true) (left - 1))
def forceR (F : Int × List (List Int)) : TR → List (List Int) → Int → Bool
  | .lf s (some _), _, _ => false
  | .lf s none, S, least => decide (s = ("end" : Str)) && (!decide (S = []) && decide (least ≤ 0))
  | .nd p l r, S, least => decide (0 ≤ p ∧ p < F.1) && (forceR F l (halfM S p false) (least - 1) && forceR F r (halfM S p true) (least - 1))
/-- the law's own trees -/
def qtree (F : Int × List (List Int)) : Nat → List (List Int) → Int → TR
  | 0, S, _ => .lf "is" (some (cond (!decide (S = [])) (idxL F.2 (getL S 0) : Int) 0))
  | d + 1, S, num => cond (decide (partM S F.1 = [])) (.lf "is" (some (cond (!decide (S = [])) (idxL F.2 (getL S 0) : Int) 0)))
      (.nd (getL (partM S F.1) (num % ((partM S F.1).length : Int))) (qtree F d (halfM S (getL (partM S F.1) (num % ((partM S F.1).length : Int))) false) (num / 7 + 5)) (qtree F d (halfM S (getL (partM S F.1) (num % ((partM S F.1).length : Int))) true) (num / 7 + 5 + 1)))
def ctree (F : Int × List (List Int)) : Nat → List (List Int) → Int → TR
  | 0, S, _ => .lf "end" none
  | d + 1, S, num => cond (decide (partM S F.1 = [])) (.lf "end" none)
      (.nd (getL (partM S F.1) (num % ((partM S F.1).length : Int))) (ctree F d (halfM S (getL (partM S F.1) (num % ((partM S F.1).length : Int))) false) (num / 7 + 5)) (ctree F d (halfM S (getL (partM S F.1) (num % ((partM S F.1).length : Int))) true) (num / 7 + 5 + 1)))
/-! ### rows of trees, a tree at a time -/
abbrev TRow := List (T3 TR (List (List Int)) Int)
def TR.tsz : TR → Nat
  | .lf _ _ => 1
  | .nd _ l r => l.tsz + r.tsz + 1
theorem TR.tsz_pos (t : TR) : 0 < t.tsz := by cases t <;> simp [TR.tsz]
theorem TR.tsz_dep : ∀ t : TR, t.tsz < 2 ^ (t.dep)
  | .lf _ _ => by simp [TR.tsz, TR.dep]
  | .nd _ l r => by
    have h1 := l.tsz_dep
    have h2 := r.tsz_dep
    have a : 2 ^ l.dep ≤ 2 ^ (max l.dep r.dep) := Nat.pow_le_pow_right (by decide) (Nat.le_max_left ..)
    have b : 2 ^ r.dep ≤ 2 ^ (max l.dep r.dep) := Nat.pow_le_pow_right (by decide) (Nat.le_max_right ..)
    simp only [TR.tsz, TR.dep, Nat.pow_succ]
    omega
def lsz : TRow → Nat
  | [] => 0
  | e :: r => e.a.tsz + lsz r
theorem lsz_app (a b : TRow) : lsz (a ++ b) = lsz a + lsz b := by
  induction a with
  | nil => simp [lsz]
  | cons e r ih => simp [lsz, ih, Nat.add_assoc]
theorem lsz_len (a : TRow) : a.length ≤ lsz a := by
  induction a with
  | nil => simp [lsz]
  | cons e r ih =>
    have := e.a.tsz_pos
    simp [lsz]
    omega
theorem lastL_snoc {α : Type} [Inhabited α] (i : List α) (e : α) : lastL (i ++ [e]) = e := by unfold lastL; simp
theorem snoc_of {α : Type} {xs : List α} (h : xs ≠ []) : ∃ i e, xs = i ++ [e] := ⟨xs.dropLast, xs.getLast h, (List.dropLast_concat_getLast h).symm⟩
/-- a row gone through from behind: o hands back false where an item fails -/
structure RowStep (R : T3 TR (List (List Int)) Int → Bool) (o : TRow → Option Bool) (step : TRow → TRow) : Prop where
  lf : ∀ i s a S c, o (i ++ [⟨.lf s a, S, c⟩]) = cond (R ⟨.lf s a, S, c⟩) none (some false) ∧ (R ⟨.lf s a, S, c⟩ = true → step (i ++ [⟨.lf s a, S, c⟩]) = i)
  nd : ∀ i p l r S c, (o (i ++ [⟨.nd p l r, S, c⟩]) = some false ∧ R ⟨.nd p l r, S, c⟩ = false) ∨
    (o (i ++ [⟨.nd p l r, S, c⟩]) = none ∧ ∃ e1 e2 : T3 TR (List (List Int)) Int, step (i ++ [⟨.nd p l r, S, c⟩]) = i ++ [e1] ++ [e2] ∧ e1.a = l ∧ e2.a = r ∧ R ⟨.nd p l r, S, c⟩ = (R e1 && R e2))
theorem row_fall {R : T3 TR (List (List Int)) Int → Bool} {o : TRow → Option Bool} {step : TRow → TRow} (h : RowStep R o step) {x : TRow} (hne : x ≠ []) (ho : o x = none) : lsz (step x) < lsz x ∧ (step x).all R = x.all R := by
  obtain ⟨i, e, rfl⟩ := snoc_of hne
  obtain ⟨t, S, c⟩ := e
  cases t with
  | lf s a =>
    obtain ⟨h1, h2⟩ := h.lf i s a S c
    rw [ho] at h1
    cases q : R ⟨.lf s a, S, c⟩ with
    | false => rw [q] at h1; cases h1
    | true =>
      rw [h2 q, lsz_app]
      exact ⟨by simp [lsz, TR.tsz], by simp [q]⟩
  | nd p l r =>
    rcases h.nd i p l r S c with ⟨h1, _⟩ | ⟨h1, e1, e2, h2, h3, h4, h5⟩
    · rw [ho] at h1; cases h1
    · rw [h2, lsz_app, lsz_app, lsz_app]
      refine ⟨?_, by simp [h5, Bool.and_assoc]⟩
      simp only [lsz, TR.tsz, h3, h4]
      omega
theorem row_stop {R : T3 TR (List (List Int)) Int → Bool} {o : TRow → Option Bool} {step : TRow → TRow} (h : RowStep R o step) {x : TRow} {r : Bool} (hne : x ≠ []) (ho : o x = some r) : r = false ∧ x.all R = false := by
  obtain ⟨i, e, rfl⟩ := snoc_of hne
  obtain ⟨t, S, c⟩ := e
  cases t with
  | lf s a =>
    obtain ⟨h1, h2⟩ := h.lf i s a S c
    rw [ho] at h1
    cases q : R ⟨.lf s a, S, c⟩ with
    | false => rw [q] at h1; cases h1; exact ⟨rfl, by simp [q]⟩
    | true => rw [q] at h1; cases h1
  | nd p l r =>
    rcases h.nd i p l r S c with ⟨h1, h2⟩ | ⟨h1, _⟩
    · rw [ho] at h1; cases h1; exact ⟨rfl, by simp [h2]⟩
    · rw [ho] at h1; cases h1
theorem row_run {R : T3 TR (List (List Int)) Int → Bool} {o : TRow → Option Bool} {step : TRow → TRow} {c : TRow → Bool} (h : RowStep R o step) (hc : ∀ x, c x = !decide (x = [])) : ∀ (n : Nat) (x : TRow), lsz x ≤ n →
    (loopW o c step n x).1.getD true = x.all R ∧ ((loopW o c step n x).1 = none → c (loopW o c step n x).2 = false)
  | 0, x, hl => by
    have := lsz_len x
    have hx : x = [] := List.length_eq_zero_iff.mp (by omega)
    subst hx
    exact ⟨rfl, fun _ => by rw [hc]; rfl⟩
  | n + 1, x, hl => by
    by_cases hx : x = []
    · subst hx
      have e : c ([] : TRow) = false := by rw [hc]; rfl
      have e2 : loopW o c step (n + 1) [] = (none, []) := by
        show (if c ([] : TRow) = true then _ else (none, [])) = _
        rw [e]
        rfl
      rw [e2]
      exact ⟨rfl, fun _ => e⟩
    · have e : c x = true := by rw [hc, decide_eq_false hx]; rfl
      cases ho : o x with
      | some r =>
        obtain ⟨rfl, q⟩ := row_stop h hx ho
        have e2 : loopW o c step (n + 1) x = (some false, x) := by
          rw [loopW, if_pos e, ho]
        rw [e2, q]
        exact ⟨rfl, fun z => by cases z⟩
      | none =>
        obtain ⟨f1, f2⟩ := row_fall h hx ho
        have e2 : loopW o c step (n + 1) x = loopW o c step n (step x) := by
          rw [loopW, if_pos e, ho]
        rw [e2, ← f2]
        exact row_run h hc n (step x) (by omega)
theorem row_inv {R : T3 TR (List (List Int)) Int → Bool} {o : TRow → Option Bool} {step : TRow → TRow} {c : TRow → Bool} (h : RowStep R o step) (hc : ∀ x, c x = !decide (x = [])) {x0 x : TRow} (hw : WRo o c step x0 x) : lsz x ≤ lsz x0 := by
  induction hw with
  | z => exact Nat.le_refl _
  | @s y _ hcy hoy ih =>
    have hy : y ≠ [] := fun z => by
      rw [hc, z] at hcy
      cases hcy
    have := (row_fall h hy hoy).1
    omega
theorem qtree_dep (F : Int × List (List Int)) : ∀ (d : Nat) (S : List (List Int)) (num : Int), (qtree F d S num).dep ≤ d + 1 ∧ (qtree F d S num).okT = true
  | 0, S, num => ⟨by simp [qtree, TR.dep], by unfold qtree TR.okT; decide +kernel⟩
  | d + 1, S, num => by
    unfold qtree
    cases decide (partM S F.1 = []) with
    | true => exact ⟨by show 1 ≤ d + 1 + 1; omega, by show PyData.strOk _ = true; decide +kernel⟩
    | false =>
      obtain ⟨a1, a2⟩ := qtree_dep F d (halfM S (getL (partM S F.1) (num % ((partM S F.1).length : Int))) false) (num / 7 + 5)
      obtain ⟨b1, b2⟩ := qtree_dep F d (halfM S (getL (partM S F.1) (num % ((partM S F.1).length : Int))) true) (num / 7 + 5 + 1)
      refine ⟨?_, ?_⟩
      · show max _ _ + 1 ≤ d + 1 + 1
        omega
      · show (_ && _) = true
        rw [a2, b2]
        rfl
theorem ctree_dep (F : Int × List (List Int)) : ∀ (d : Nat) (S : List (List Int)) (num : Int), (ctree F d S num).dep ≤ d + 1 ∧ (ctree F d S num).okT = true
  | 0, S, num => ⟨by simp [ctree, TR.dep], by unfold ctree TR.okT; decide +kernel⟩
  | d + 1, S, num => by
    unfold ctree
    cases decide (partM S F.1 = []) with
    | true => exact ⟨by show 1 ≤ d + 1 + 1; omega, by show PyData.strOk _ = true; decide +kernel⟩
    | false =>
      obtain ⟨a1, a2⟩ := ctree_dep F d (halfM S (getL (partM S F.1) (num % ((partM S F.1).length : Int))) false) (num / 7 + 5)
      obtain ⟨b1, b2⟩ := ctree_dep F d (halfM S (getL (partM S F.1) (num % ((partM S F.1).length : Int))) true) (num / 7 + 5 + 1)
      refine ⟨?_, ?_⟩
      · show max _ _ + 1 ≤ d + 1 + 1
        omega
      · show (_ && _) = true
        rw [a2, b2]
        rfl
/-- a tree of a small depth, of written tags -/
def TR.Low (n : Nat) (t : TR) : Prop := t.dep ≤ n ∧ t.okT = true
theorem TR.Low.cmp {n : Nat} {t : TR} (h : t.Low n) (hn : n ≤ 64) : t.Cmp := ⟨h.2, Nat.le_trans h.1 hn⟩
theorem TR.Low.sz {t : TR} (h : t.Low 13) : t.tsz ≤ 100000 := by
  have h1 := t.tsz_dep
  have h2 : 2 ^ t.dep ≤ 2 ^ 13 := Nat.pow_le_pow_right (by decide) h.1
  omega
theorem TR.Low.up {n m : Nat} {t : TR} (h : t.Low n) (hm : n ≤ m) : t.Low m := ⟨Nat.le_trans h.1 hm, h.2⟩
theorem TR.Low.lo {n : Nat} {t : TR} (h : t.Low n) : t.lo.Low n := by
  cases t with
  | lf s o => exact h
  | nd p l r =>
    obtain ⟨h1, h2⟩ := h
    have h1 : max l.dep r.dep + 1 ≤ n := h1
    have h2 : (l.okT && r.okT) = true := h2
    rw [Bool.and_eq_true] at h2
    exact ⟨by show l.dep ≤ n; omega, h2.1⟩
theorem TR.Low.hi {n : Nat} {t : TR} (h : t.Low n) : t.hi.Low n := by
  cases t with
  | lf s o => exact h
  | nd p l r =>
    obtain ⟨h1, h2⟩ := h
    have h1 : max l.dep r.dep + 1 ≤ n := h1
    have h2 : (l.okT && r.okT) = true := h2
    rw [Bool.and_eq_true] at h2
    exact ⟨by show r.dep ≤ n; omega, h2.2⟩
theorem TR.Low.nd {n : Nat} {p : Int} {l r : TR} (hl : l.Low n) (hr : r.Low n) : (TR.nd p l r).Low (n + 1) := ⟨by
  have a := hl.1
  have b := hr.1
  show max l.dep r.dep + 1 ≤ n + 1
  omega, by show (l.okT && r.okT) = true; rw [hl.2, hr.2]; rfl⟩
theorem TR.Low.is {o : Option Int} : (TR.lf "is" o).Low 1 := ⟨by show 1 ≤ 1; omega, by show PyData.strOk _ = true; decide +kernel⟩
theorem TR.Low.end_ {o : Option Int} : (TR.lf "end" o).Low 1 := ⟨by show 1 ≤ 1; omega, by show PyData.strOk _ = true; decide +kernel⟩
end Zk

namespace Zk
open PySem PySem.Spec PyProof.Rows L2

/-! ### expressions that change a memo: more of them -/
def tTM (K : PySem.W.Frag) (b : Bs) (Γ : List En) (c : Bool) : TT := fun σ H Q => ∃ F, EnvOk K b F H σ Γ ∧ ∀ F' H', Ex F F' → EnvOk K b F' H' σ Γ → Q c H'
abbrev XTM (X : Cx) (b : Bs) (e : Expr) (Γ : List En) (c : Bool) : Prop := PT X e (tTM X.K b Γ c)
section
variable {X : Cx} {b : Bs} {N : List Str} {sc : Scope} {mg : Str → Option Value} {W : Str → Bool} {Γ Γ' Γ1 Γ2 : List En} {k k' rl : Bool} {la lb lc : Lv} {pos pp py : Pos} {e e1 e2 t : Expr} {body rest els : List Stmt}
variable {α β : Type} [ia : Py α] [ib : Py β] {p : α} {q r1 : β} {o : Option β} {c : Bool}
theorem xm_as (h : XM X b e Γ k p) (hq : Py.enc p = Py.enc q) : XM X b e Γ k q := by
  show PE X e (tM X.K b Γ k (Py.enc q))
  rw [← hq]
  exact h
theorem xt_cmpM {op : CmpOp} (cv : CmpV X b op (.st k) (.st k') (Py.enc p) (Py.enc q) c) (h1 : XM X b e1 Γ k p) (h2 : XM X b e2 Γ k' q) (hm : behindInMarks op e2 = false) : XTM X b (.Compare e1 [op] [e2] pos) Γ c := by
  obtain ⟨r, ho, hr⟩ := cv
  exact PT.wk (pt_cmpR ho h1 h2 hm) fun σ H Q ⟨F, ok, kk⟩ => ⟨F, ok, fun v F1 H1 g1 ok1 d1 => ⟨F1, ok1, fun w F2 H2 g2 ok2 d2 =>
    hr F2 H2 v w _ ok2.fr (dq_mo (sel2_mo g2 k) _ _ d1) d2 ⟨c, rfl, kk F2 H2 (g1.tr g2) ok2⟩⟩⟩
theorem xb_ifrM {r1 r2 : β} (ht : XTM X b t Γ c) (h1 : c = true → XB X b rl body Γ (some r1) Γ1) (h2 : c = false → XB X b rl rest Γ (some r2) Γ2) : XB X b rl (.If t body [] pos :: rest) Γ (some (cond c r1 r2)) Γ2 := by
  cases c with
  | true => exact PSs.wk (pss_cons (ps_if ht (h1 rfl) (pss_never)) pss_never) fun D σ H ⟨F, ok, kk⟩ => ⟨F, ok, fun F' H' g ok1 => iteT ⟨F', ok1, tS_some (Γ' := Γ1) kk rfl g⟩⟩
  | false => exact PSs.wk (pss_cons (ps_if ht (u := tNext) pss_never pss_nil) (h2 rfl)) fun D σ H ⟨F, ok, kk⟩ => ⟨F, ok, fun F' H' g ok1 => iteF ⟨F', ok1, tS_end kk g⟩⟩
theorem xb_ifoM (ht : XTM X b t Γ c) (h1 : c = true → XB X b rl body Γ (some r1) Γ1) (h2 : c = false → XB X b rl rest Γ o Γ2) : XB X b rl (.If t body [] pos :: rest) Γ (cond c (some r1) o) Γ2 := by
  cases c with
  | true => exact PSs.wk (pss_cons (ps_if ht (h1 rfl) (pss_never)) pss_never) fun D σ H ⟨F, ok, kk⟩ => ⟨F, ok, fun F' H' g ok1 => iteT ⟨F', ok1, tS_some (Γ' := Γ1) kk rfl g⟩⟩
  | false => exact PSs.wk (pss_cons (ps_if ht (u := tNext) pss_never pss_nil) (h2 rfl)) fun D σ H ⟨F, ok, kk⟩ => ⟨F, ok, fun F' H' g ok1 => iteF ⟨F', ok1, tS_end kk g⟩⟩
/-- C(e), e of effects -/
theorem xm_make {t : Tx} {x : Str} {C : Addr} {st : Stmt} {n : Nat} (c : Cf X N sc mg W) (a : At X t n) (O : ObAt t x C st) (S : InitS st) (hk : Nat.ble 2 n = true) (hg : sc.names.lookup x = some .globalImplicit) (hq : Py.enc q = obD C "tree" (Py.enc p))
    (he : XM X b e Γ k p) (hbd : ∀ (kV doc pm : Value) (an : Option Addr) (cdv ct : Value) (us : List Value), us.length = (["self", "tree"] : List Str).length → bindArgs (PySem.W.fnOf "__init__" (x ++ ".__init__") (defArgs st) (defBody st) (defScope st) .none kV doc pm an cdv ct) ⟨us, []⟩ = pure ((["self", "tree"] : List Str).zip us))
    (hdb : (x == ("__debug__" : Str)) = false := by decide) (hs : starEach [e] X.env = (false, eval e X.env) :: starEach [] X.env := by rfl) (hpl : (backTo pos (starEach [] X.env)).any (·.1) = false := by rfl) :
    XM X b (.Call (.Name x pp) [e] [] pos) Γ k q := by
  obtain ⟨f, fd, M, Fn⟩ := O.ini
  refine PE.wk (pe_make (f := f) (C := C) (by rw [a.hK]; exact M) (fn_at a (init_ok Fn S O.cl O.no)) (a.hr.mono (Nat.le_of_ble_eq_true hk)) (show X.env.scope.names.lookup x = _ by rw [c.hs]; exact hg) (by rw [a.hm]; exact O.mg) (by rw [a.hK]; exact Fn.binds hbd) .nil pass0 (xma_cons he xma_nil hs) hdb hs hpl) ?_
  rintro σ H Q ⟨F, ok, kq⟩
  refine ⟨F, ok, fun vs F1 H1 g1 ok1 d1 y dx hy hdx hne => ?_⟩
  obtain ⟨v, rfl, d⟩ := dql1 d1
  have fz := ok1.fr
  refine ⟨y, dx, v, rfl, upd_same, rfl, ?_⟩
  rw [upd_upd]
  have ny : upd H1 dx (.own y) y = none := by rw [upd_ne (Ne.symm hne)]; exact hy
  have ga : Grow F1 H1 (upd F1 dx (.own y)) (upd H1 dx (.own y)) := Grow.new fz.h hdx
  have gb := Grow.new (o := .ins C dx [("tree", v)]) ga.h ny
  have g2 := ga.tr gb
  refine kq _ _ _ (g1.tr g2.f) (ok1.gr g2) ?_
  rw [hq]
  unfold obD
  have d' : Dq (sel2 b.B F1 k) v (Py.enc p) := d
  refine .obj (dx := dx) ?_ ?_ (dq_mo (sel2_mo g2.f k) _ _ d')
  · exact sel2_at (fz.b.no hy) upd_same rfl k
  · exact sel2_at (fz.b.no hdx) (by rw [upd_ne hne]; exact upd_same) rfl k
/-! ### isinstance(o, C), C an own class -/
structure InsF (K : PySem.W.Frag) (C : Addr) : Prop where
  ha : PySem.W.findIn K (.ref C) "__class__" = some (some (.builtin "object.__class__"))
  hn : PySem.W.specialIn K (.builtin "object.__class__") "__get__" = some (some (.builtin "getset_descriptor.__get__"))
  htk : PySem.W.takesIn K (.builtin "object.__class__") = some true
  hm : PySem.W.mroIn K C (.type "object") = some true
theorem kit_own {K : PySem.W.Frag} {C D : Addr} {b : Bool} (h0 : PySem.W.subIn K (.ref C) (.ref C) = some true) (h1 : PySem.W.isClsIn K D = true) (h2 : PySem.W.typeIn K (.ref D) = some (.type "type")) (h3 : PySem.W.subIn K (.ref C) (.ref D) = some b) : PySem.W.kitOne K (.ref C) (.ref D) = some b := by
  unfold PySem.W.kitOne
  by_cases e : C = D
  · subst e
    rw [h0] at h3
    rw [if_pos (by rw [beq_self_eq_true])]
    exact h3
  · have e2 : ((Value.ref C) == (Value.ref D)) = false := by
      rw [beq_eq_false_iff_ne]
      exact fun z => e (Value.ref.inj z)
    rw [e2, if_neg (by decide)]
    have h1 : (PySem.W.clsIn K D).isSome = true := h1
    show (if ((PySem.W.clsIn K D).isSome && PySem.W.typeIn K (.ref D) == some (.type "type")) = true then PySem.W.subIn K (.ref C) (.ref D) else none) = some b
    rw [if_pos (by rw [h1, h2]; rfl)]
    exact h3
structure IsN (t : Tx) (C : Addr) (y : Str) (c : Bool) : Prop where
  f : InsF t.K C
  ex : ∃ D, t.mg y = some (.ref D) ∧ PySem.W.kitOne t.K (.ref C) (.ref D) = some c
theorem call_isO {C D : Addr} {c : Bool} (cl : Cls X.K C) (f : InsF X.K C) (hk : PySem.W.kitOne X.K (.ref C) (.ref D) = some c) : CallR X (.builtin "isinstance") (fun xs H Q => ∃ a dx fs, xs = [.ref a, .ref D] ∧ H a = some (.ins C dx fs) ∧ Q (.bl c) H) := by
  intro pins s σ H xs us Q I r h
  obtain ⟨a, dx, fs, rfl, ha, q⟩ := h
  obtain ⟨u, w', rfl, ru, rw'⟩ := vals2 r
  cases rw'
  exact isinst_ok I ru (TyOf.ins ha cl f.ha f.hn f.htk f.hm) hk fun tk => ⟨.bl c, H, I.tok _, rfl, q⟩
theorem xe_isO {t : Tx} {x y : Str} {C : Addr} {st : Stmt} {n : Nat} {c : Bool} {d : PyData} {f : Str} {cn : Str} (cf : Cf X N sc mg W) (a : At X t n) (O : ObAt t cn C st) (I : IsN t C y c) (hq : Py.enc q = obD C f d) (h : XE X b e Γ la q) (hy : sc.names.lookup y = some .globalImplicit)
    (hg : sc.names.lookup x = some .globalImplicit) (hm : mg x = none) (hv : bootBuiltins x = some (.builtin "isinstance"))
    (hn : x ≠ "__name__" := by decide) (hdb : (x == ("__debug__" : Str)) = false := by decide) (hdb2 : (y == ("__debug__" : Str)) = false := by decide)
    (he : starEach [e, .Name y py] X.env = (false, eval e X.env) :: starEach [.Name y py] X.env := by rfl) (hs2 : starEach [.Name y py] X.env = [(false, eval (.Name y py) X.env)] := by rfl) (hpl : (backTo pos (starEach [.Name y py] X.env)).any (·.1) = false := by rfl) :
    XE X b (.Call (.Name x pp) [e, .Name y py] [] pos) Γ lc c := by
  obtain ⟨D, hD, hk⟩ := I.ex
  refine PE.wk (pe_callB (call_isO (C := C) (D := D) (c := c) (by rw [a.hK]; exact O.cl) (by rw [a.hK]; exact I.f) (by rw [a.hK]; exact hk)) (show X.env.scope.names.lookup x = _ by rw [cf.hs]; exact hg) (by rw [cf.hm]; exact hm) hv
    (pa_cons h (pa_cons (pe_glob (v := .ref D) (show X.env.scope.names.lookup y = _ by rw [cf.hs]; exact hy) (by rw [a.hm]; exact hD) rfl hdb2) pa_nil hs2) he) hn hdb he hpl) ?_
  rintro σ H Q ⟨F, ok, kk⟩
  refine ⟨F, ok, fun v F1 H1 g1 d1 => ?_⟩
  rw [hq] at d1
  obtain ⟨z, dx, u, rfl, h1, h2, h3⟩ := dp_obj d1
  exact ⟨z, dx, _, rfl, sel_le (ok.gr g1).fr.h _ _ _ h1, kk _ F1 H1 g1 (.bl _)⟩
end
end Zk

namespace Zk
open PySem PySem.Spec PyProof.Rows L2

/-! ### trees of the fewest questions -/
def qbP (F : Int × List (List Int)) (S : List (List Int)) (p : Int) : Bool := decide (1 + max (dM F.1 (halfM S p false)) (dM F.1 (halfM S p true)) = dM F.1 S)
def qbF (F : Int × List (List Int)) : Nat → List (List Int) → TR
  | 0, S => .lf "is" (some 0)
  | k + 1, S => if S.length < 2 then .lf "is" (some (idxL F.2 (getL S 0) : Int)) else
    match (partM S F.1).find? (qbP F S) with
    | some p => .nd p (qbF F k (halfM S p false)) (qbF F k (halfM S p true))
    | none => .lf "is" (some 0)
def qbM (F : Int × List (List Int)) (S : List (List Int)) : TR := qbF F S.length S
theorem find_mem {α : Type} {f : α → Bool} {xs : List α} {x : α} (h : xs.find? f = some x) : x ∈ xs ∧ f x = true := ⟨List.mem_of_find?_eq_some h, List.find?_some h⟩
theorem qbF_any (F : Int × List (List Int)) : ∀ (k l : Nat) (S : List (List Int)), S ≠ [] → S.length ≤ k → S.length ≤ l → qbF F k S = qbF F l S
  | 0, _, S, hS, h, _ => absurd (List.length_eq_zero_iff.mp (by omega)) hS
  | _ + 1, 0, S, hS, _, h => absurd (List.length_eq_zero_iff.mp (by omega)) hS
  | k + 1, l + 1, S, hS, h1, h2 => by
    unfold qbF
    by_cases hl : S.length < 2
    · rw [if_pos hl, if_pos hl]
    · rw [if_neg hl, if_neg hl]
      cases q : (partM S F.1).find? (qbP F S) with
      | none => rfl
      | some p =>
        have hp := (find_mem q).1
        have a := part_lt hp false
        have b := part_lt hp true
        show TR.nd p _ _ = TR.nd p _ _
        rw [qbF_any F k l (halfM S p false) (List.length_pos_iff.mp a.2) (by omega) (by omega), qbF_any F k l (halfM S p true) (List.length_pos_iff.mp b.2) (by omega) (by omega)]
theorem qbM_eq (F : Int × List (List Int)) {S : List (List Int)} (hS : S ≠ []) : qbM F S = if S.length < 2 then .lf "is" (some (idxL F.2 (getL S 0) : Int)) else
    match (partM S F.1).find? (qbP F S) with
    | some p => .nd p (qbM F (halfM S p false)) (qbM F (halfM S p true))
    | none => .lf "is" (some 0) := by
  have hl := List.length_pos_iff.mpr hS
  unfold qbM
  obtain ⟨k, hk⟩ : ∃ k, S.length = k + 1 := ⟨S.length - 1, by omega⟩
  rw [hk]
  show (if S.length < 2 then _ else _) = _
  rw [hk]
  by_cases h2 : k + 1 < 2
  · rw [if_pos h2, if_pos h2]
  · rw [if_neg h2, if_neg h2]
    cases q : (partM S F.1).find? (qbP F S) with
    | none => rfl
    | some p =>
      have hp := (find_mem q).1
      have a := part_lt hp false
      have b := part_lt hp true
      show TR.nd p _ _ = TR.nd p _ _
      rw [qbF_any F k _ (halfM S p false) (List.length_pos_iff.mp a.2) (by omega) (Nat.le_refl _), qbF_any F k _ (halfM S p true) (List.length_pos_iff.mp b.2) (by omega) (Nat.le_refl _)]
def formedQ : TR → Bool
  | .lf s (some _) => decide (s = ("is" : Str))
  | .lf s none => false
  | .nd _ l r => formedQ l && formedQ r
def formedC : TR → Bool
  | .lf s (some _) => false
  | .lf s none => decide (s = ("end" : Str))
  | .nd _ l r => formedC l && formedC r
theorem findR_mono (F : Int × List (List Int)) : ∀ (t : TR) (S : List (List Int)) (a b : Int), a ≤ b → findR F t S a = true → findR F t S b = true
  | .lf s none, S, a, b, h, q => by cases q
  | .lf s (some i), S, a, b, h, q => by
    unfold findR at q ⊢
    simp only [Bool.and_eq_true, decide_eq_true_eq] at q ⊢
    exact ⟨q.1, q.2.1, q.2.2.1, by omega⟩
  | .nd p l r, S, a, b, h, q => by
    unfold findR at q ⊢
    simp only [Bool.and_eq_true, decide_eq_true_eq] at q ⊢
    exact ⟨q.1, findR_mono F l _ _ _ (by omega) q.2.1, findR_mono F r _ _ _ (by omega) q.2.2⟩
/-- what a tree of the fewest questions is -/
theorem qb_all {F : Int × List (List Int)} : ∀ (k : Nat) (S : List (List Int)), S.length ≤ k → S ≠ [] → Val F.1 S → (∀ f ∈ S, f ∈ F.2) →
    findR F (qbM F S) S (dM F.1 S) = true ∧ formedQ (qbM F S) = true ∧ (qbM F S).dep ≤ S.length ∧ (qbM F S).okT = true
  | 0, S, hk, hS, _, _ => absurd (List.length_eq_zero_iff.mp (by omega)) hS
  | k + 1, S, hk, hS, hv, hi => by
    have hl := List.length_pos_iff.mpr hS
    rw [qbM_eq F hS]
    by_cases h2 : S.length < 2
    · rw [if_pos h2]
      have g := getL_get (sets := S) (c := 0) (by decide) (by omega)
      have e : S = [getL S 0] := by
        match S, h2, hS with
        | [f], _, _ => rfl
      have hm := hi _ (mem_of_get g)
      obtain ⟨f1, _⟩ := find_first F.2 (getL S 0) hm
      have hlt : (idxL F.2 (getL S 0)) < F.2.length := lt_of_get f1
      have hg : getL F.2 (idxL F.2 (getL S 0) : Int) = getL S 0 := by
        have := getL_get (sets := F.2) (c := (idxL F.2 (getL S 0) : Int)) (by omega) (by omega)
        rw [Int.toNat_natCast] at this
        rw [show F.2[idxL F.2 (getL S 0)]? = some (getL S 0) from f1] at this
        exact (Option.some.inj this).symm
      refine ⟨?_, ?_, by show 1 ≤ S.length; omega, by show PyData.strOk _ = true; decide +kernel⟩
      · rw [d_small h2]
        unfold findR
        rw [hg]
        have h3 : (0 : Int) ≤ (idxL F.2 (getL S 0) : Int) ∧ (idxL F.2 (getL S 0) : Int) < (F.2.length : Int) := ⟨by omega, by omega⟩
        have h4 : memB S [[], [getL S 0]] = true := memB_t.mpr (by rw [← e]; simp)
        rw [decide_eq_true h3, h4]
        rfl
      · rfl
    · rw [if_neg h2]
      obtain ⟨p0, hp0, e0⟩ := dM_some hv (by omega)
      have hq0 : qbP F S p0 = true := decide_eq_true (by rw [e0]; rfl)
      obtain ⟨p, hf, hp, hq⟩ := find_some hp0 hq0
      rw [hf]
      have a := part_lt hp false
      have b := part_lt hp true
      have hpr := (part_mem.mp hp).1
      have hq := of_decide_eq_true hq
      obtain ⟨a1, a2, a3, a4⟩ := qb_all k (halfM S p false) (by omega) (List.length_pos_iff.mp a.2) (hv.half p false) (fun f hf => hi f (half_mem.mp hf).1)
      obtain ⟨b1, b2, b3, b4⟩ := qb_all k (halfM S p true) (by omega) (List.length_pos_iff.mp b.2) (hv.half p true) (fun f hf => hi f (half_mem.mp hf).1)
      refine ⟨?_, ?_, ?_, ?_⟩
      · show (decide (0 ≤ p ∧ p < F.1) && (findR F _ (halfM S p false) (dM F.1 S - 1) && findR F _ (halfM S p true) (dM F.1 S - 1))) = true
        rw [decide_eq_true hpr, findR_mono F _ _ _ _ (by omega) a1, findR_mono F _ _ _ _ (by omega) b1]
        rfl
      · show (formedQ _ && formedQ _) = true
        rw [a2, b2]
        rfl
      · show max (qbM F (halfM S p false)).dep (qbM F (halfM S p true)).dep + 1 ≤ S.length
        omega
      · show (TR.okT _ && TR.okT _) = true
        rw [a4, b4]
        rfl
/-! ### the law's own depth: a fold -/
def stepD (n : Int) (S : List (List Int)) (s : Int) (p : Int) : Int := cond ((!decide (halfM S p false = [])) && (!decide (halfM S p true = []))) (min s (1 + max (dM n (halfM S p false)) (dM n (halfM S p true)))) s
theorem stepD_part {n : Int} {S : List (List Int)} {s p : Int} (hp : 0 ≤ p ∧ p < n) : stepD n S s p = if p ∈ partM S n then min s (dVal n S p) else s := by
  unfold stepD
  have hs := half_sum S p
  by_cases h : p ∈ partM S n
  · rw [if_pos h]
    have a := (part_lt h false).2
    have b := (part_lt h true).2
    rw [decide_eq_false (List.length_pos_iff.mp a), decide_eq_false (List.length_pos_iff.mp b)]
    rfl
  · rw [if_neg h]
    by_cases a : halfM S p false = []
    · rw [decide_eq_true a]
      rfl
    · by_cases b : halfM S p true = []
      · rw [decide_eq_true b]
        cases decide (halfM S p false = []) <;> rfl
      · exfalso
        have a := List.length_pos_iff.mpr a
        have b := List.length_pos_iff.mpr b
        exact h (part_mem.mpr ⟨hp, b, by omega⟩)
theorem foldD {n : Int} {S : List (List Int)} (hv : Val n S) (h2 : 2 ≤ S.length) : (rg 0 n.toNat).foldl (stepD n S) (S.length : Int) = dM n S := by
  have hr : ∀ p ∈ rg 0 n.toNat, 0 ≤ p ∧ p < n := fun p hp => by
    have := mem_rg.mp hp
    omega
  have lo : ∀ (xs : List Int) (s : Int), (∀ p ∈ xs, 0 ≤ p ∧ p < n) → dM n S ≤ s → dM n S ≤ xs.foldl (stepD n S) s := by
    intro xs
    induction xs with
    | nil => intro s _ h; exact h
    | cons p xs ih =>
      intro s hx h
      refine ih _ (fun q hq => hx q (List.mem_cons_of_mem _ hq)) ?_
      rw [stepD_part (hx p (by simp))]
      by_cases hp : p ∈ partM S n
      · rw [if_pos hp]
        have := dM_le hp
        omega
      · rw [if_neg hp]
        exact h
  have hi : ∀ (xs : List Int) (s : Int), (∀ p ∈ xs, 0 ≤ p ∧ p < n) → xs.foldl (stepD n S) s ≤ s ∧ ∀ p ∈ xs, p ∈ partM S n → xs.foldl (stepD n S) s ≤ dVal n S p := by
    intro xs
    induction xs with
    | nil => intro s _; exact ⟨Int.le_refl _, fun p hp => by cases hp⟩
    | cons p xs ih =>
      intro s hx
      obtain ⟨i1, i2⟩ := ih (stepD n S s p) fun q hq => hx q (List.mem_cons_of_mem _ hq)
      have e := stepD_part (S := S) (s := s) (hx p (by simp))
      have le : stepD n S s p ≤ s := by
        rw [e]
        split <;> omega
      refine ⟨Int.le_trans i1 le, fun q hq hqp => ?_⟩
      rcases List.mem_cons.mp hq with rfl | hq
      · rw [if_pos hqp] at e
        have i1 : xs.foldl (stepD n S) (stepD n S s q) ≤ stepD n S s q := i1
        show xs.foldl (stepD n S) (stepD n S s q) ≤ _
        omega
      · exact i2 q hq hqp
  obtain ⟨p, hp, e⟩ := dM_some hv h2
  have b := (hi (rg 0 n.toNat) (S.length : Int) hr).2 p (by
    have := (part_mem.mp hp).1
    exact mem_rg.mpr (by omega)) hp
  have a := lo (rg 0 n.toNat) (S.length : Int) hr (by
    have := d_le _ S (Nat.le_refl _) hv (by omega)
    omega)
  omega
theorem loop_findMap {S α β : Type} {o : S → α → Option β} {step : S → α → S} {f : α → Bool} {g : α → β} : ∀ {xs : List α} {s0 : S}, (∀ s x, x ∈ xs → o s x = cond (f x) (some (g x)) none) → (loopR o step xs s0).1 = (xs.find? f).map g
  | [], s0, _ => rfl
  | x :: xs, s0, h => by
    rw [loopR_cons, h s0 x (by simp), List.find?_cons]
    cases q : f x with
    | true => rfl
    | false => exact loop_findMap fun s y hy => h s y (List.mem_cons_of_mem _ hy)
end Zk

namespace Zk
open PySem PySem.Spec PyProof.Rows L2

/-! ### a, b = a list of two -/
section
variable {X : Cx} {b : Bs} {N : List Str} {sc : Scope} {mg : Str → Option Value} {W : Str → Bool} {Γ Γ' : List En} {k : Bool} {pos : Pos}
def gLst (n : Nat) (t : TGs) : TG := fun v σ H Q => ∃ a xs, v = V.ref a ∧ Rd H a (.lst xs) ∧ xs.length = n ∧ t xs σ H Q
theorem pg_lst {es : List Expr} {k : Nat} {t : TGs} {n : Nat} (hc : X.calm = true) (h : PGs X es t)
    (hn : (assignEach es X.env).length = n := by rfl) (hst : (assignEach es X.env).findIdx? (·.1) = none := by rfl) : PG X (.Tuple es k pos) (gLst n t) := by
  refine ⟨fun pins s σ H v u Q I r hw => ?_⟩
  obtain ⟨a, xs, e1, hq, hl, hw⟩ := hw
  subst e1
  cases r
  obtain ⟨its, rv, ht, hz⟩ := I.list (.inl hq)
  rw [assign_Tuple]
  refine wpAny_bind (wpAny_standAt ?_)
  unfold unpack
  rw [hst]
  have e : (assignEach es X.env).length = its.toArray.size := by simp [hn, ← hl, rv.length]
  rw [e]
  refine wpAny_bind (wpAny_holding (PySem.W.kun_itemsOf (I.ok.hd hc) ht.isList fun h' hx => ?_))
  have I1 : Inv X pins σ H { s with heap := h' } := I.kept (t' := s.toks) fun b o e => hx b o (Nat.ne_of_lt (Heap.lt_size e)) e
  exact h.run pins _ σ H xs _ Q I1 (by simpa using rv) hw
theorem xg_lst2 {α : Type} [Py α] [Inhabited α] {e1 e2 : Expr} {kk : Nat} {xs : List α} {js : List Nat} (c : Cf X N sc mg W) (hl : xs.length = 2) (h : XGs X b [e1, e2] Γ k [Py.enc (getL xs 0), Py.enc (getL xs 1)] js Γ')
    (hn : (assignEach [e1, e2] X.env).length = 2 := by rfl) (hst : (assignEach [e1, e2] X.env).findIdx? (·.1) = none := by rfl) : XG X b (.Tuple [e1, e2] kk pos) Γ k xs js Γ' :=
  PG.wk (pg_lst c.calm h hn hst) fun v σ H Q ⟨F, ok, d, kq⟩ => by
    obtain ⟨a, vs, rfl, hq, hz, hall⟩ := dp_lst d
    have e : xs.map Py.enc = [Py.enc (getL xs 0), Py.enc (getL xs 1)] := by
      match xs, hl with
      | [x, y], _ => rfl
    rw [e] at hall
    exact ⟨a, vs, rfl, ok.fr.h.rd (sel2_ne hq), dqa_len hall, F, ok, hall, kq⟩
end
/-! ### trees of the most mistakes -/
def cbP (n : Int) (S : List (List Int)) (L : Nat) (p : Int) : Bool := decide (min (mM n (halfM S p false)) (mM n (halfM S p true)) ≥ (L : Int))
def cbS (n : Int) (S : List (List Int)) (L : Nat) (p : Int) : Option (List (List Int)) := [halfM S p false, halfM S p true].find? fun T => decide (mM n T ≥ (L : Int))
def cbF (n : Int) : Nat → Nat → List (List Int) → TR
  | _, 0, _ => .lf "end" none
  | 0, _ + 1, _ => .lf "end" none
  | k + 1, L + 1, S => match (partM S n).find? (cbP n S L) with
    | some p => .nd p (cbF n k L (halfM S p false)) (cbF n k L (halfM S p true))
    | none => match (partM S n).findSome? (cbS n S (L + 1)) with
      | some T => cbF n k (L + 1) T
      | none => .lf "end" none
def cbM (n : Int) (L : Nat) (S : List (List Int)) : TR := cbF n S.length L S
theorem cbS_mem {n : Int} {S T : List (List Int)} {L : Nat} (h : (partM S n).findSome? (cbS n S L) = some T) : ∃ p ∈ partM S n, ∃ b, T = halfM S p b ∧ (L : Int) ≤ mM n T := by
  obtain ⟨p, hp, hs⟩ := List.exists_of_findSome?_eq_some h
  refine ⟨p, hp, ?_⟩
  unfold cbS at hs
  obtain ⟨h1, h2⟩ := find_mem hs
  have h2 := of_decide_eq_true h2
  rcases List.mem_cons.mp h1 with rfl | h1
  · exact ⟨false, rfl, h2⟩
  · rw [List.mem_singleton] at h1
    exact ⟨true, h1, h2⟩
theorem part_nil {n : Int} : partM [] n = [] := by
  unfold partM
  rw [List.filter_eq_nil_iff]
  intro p _ z
  simp [halfM] at z
theorem cbF_any (n : Int) : ∀ (k l L : Nat) (S : List (List Int)), S.length ≤ k → S.length ≤ l → cbF n k L S = cbF n l L S
  | k, l, 0, S, _, _ => by cases k <;> cases l <;> rfl
  | 0, 0, L + 1, S, _, _ => rfl
  | 0, l + 1, L + 1, S, h, _ => by
    have : S = [] := List.length_eq_zero_iff.mp (by omega)
    subst this
    unfold cbF
    rw [part_nil]
    rfl
  | k + 1, 0, L + 1, S, _, h => by
    have : S = [] := List.length_eq_zero_iff.mp (by omega)
    subst this
    unfold cbF
    rw [part_nil]
    rfl
  | k + 1, l + 1, L + 1, S, h1, h2 => by
    unfold cbF
    cases q : (partM S n).find? (cbP n S L) with
    | some p =>
      have hp := (find_mem q).1
      have a := part_lt hp false
      have b := part_lt hp true
      show TR.nd p _ _ = TR.nd p _ _
      rw [cbF_any n k l L (halfM S p false) (by omega) (by omega), cbF_any n k l L (halfM S p true) (by omega) (by omega)]
    | none =>
      cases q2 : (partM S n).findSome? (cbS n S (L + 1)) with
      | none => rfl
      | some T =>
        obtain ⟨p, hp, b, rfl, _⟩ := cbS_mem q2
        have a := part_lt hp b
        exact cbF_any n k l (L + 1) _ (by omega) (by omega)
theorem cbM_eq (n : Int) {L : Nat} {S : List (List Int)} : cbM n (L + 1) S = match (partM S n).find? (cbP n S L) with
    | some p => .nd p (cbM n L (halfM S p false)) (cbM n L (halfM S p true))
    | none => match (partM S n).findSome? (cbS n S (L + 1)) with
      | some T => cbM n (L + 1) T
      | none => .lf "end" none := by
  unfold cbM
  by_cases hS : S = []
  · subst hS
    rw [part_nil]
    rfl
  · have hl := List.length_pos_iff.mpr hS
    obtain ⟨k, hk⟩ : ∃ k, S.length = k + 1 := ⟨S.length - 1, by omega⟩
    rw [hk, cbF]
    cases q : (partM S n).find? (cbP n S L) with
    | some p =>
      have hp := (find_mem q).1
      have a := part_lt hp false
      have b := part_lt hp true
      show TR.nd p _ _ = TR.nd p _ _
      rw [cbF_any n k _ L (halfM S p false) (by omega) (Nat.le_refl _), cbF_any n k _ L (halfM S p true) (by omega) (Nat.le_refl _)]
    | none =>
      cases q2 : (partM S n).findSome? (cbS n S (L + 1)) with
      | none => rfl
      | some T =>
        obtain ⟨p, hp, b, rfl, _⟩ := cbS_mem q2
        have a := part_lt hp b
        exact cbF_any n k _ (L + 1) _ (by omega) (Nat.le_refl _)
theorem forceR_sets (F : Int × List (List Int)) : ∀ (t : TR) (S T : List (List Int)) (l : Int), (∀ f ∈ T, f ∈ S) → forceR F t T l = true → forceR F t S l = true
  | .lf s (some i), S, T, l, h, q => by cases q
  | .lf s none, S, T, l, h, q => by
    unfold forceR at q ⊢
    simp only [Bool.and_eq_true, decide_eq_true_eq, Bool.not_eq_true', decide_eq_false_iff_not] at q ⊢
    refine ⟨q.1, fun z => q.2.1 ?_, q.2.2⟩
    subst z
    cases T with
    | nil => rfl
    | cons f T => exact absurd (h f (by simp)) (by simp)
  | .nd p l r, S, T, k, h, q => by
    unfold forceR at q ⊢
    simp only [Bool.and_eq_true, decide_eq_true_eq] at q ⊢
    exact ⟨q.1, forceR_sets F l _ _ _ (half_inc h p false) q.2.1, forceR_sets F r _ _ _ (half_inc h p true) q.2.2⟩
/-- what a tree of cases is -/
theorem cb_all {F : Int × List (List Int)} : ∀ (k L : Nat) (S : List (List Int)), S.length ≤ k → Val F.1 S → (L : Int) ≤ mM F.1 S → forceR F (cbM F.1 L S) S (L : Int) = true ∧ formedC (cbM F.1 L S) = true ∧ (cbM F.1 L S).dep ≤ S.length + 1 ∧ (cbM F.1 L S).okT = true
  | k, 0, S, hk, hv, hL => by
    have e : cbM F.1 0 S = .lf "end" none := by unfold cbM; cases S.length <;> rfl
    rw [e]
    have hS : S ≠ [] := fun z => by
      subst z
      rw [m_small (by decide)] at hL
      exact absurd hL (by decide)
    refine ⟨?_, rfl, by show 1 ≤ S.length + 1; omega, by show PyData.strOk _ = true; decide +kernel⟩
    show (decide (("end" : Str) = "end") && (!decide (S = []) && decide ((0 : Int) ≤ 0))) = true
    rw [decide_eq_false hS]
    rfl
  | 0, L + 1, S, hk, hv, hL => by
    have : S = [] := List.length_eq_zero_iff.mp (by omega)
    subst this
    rw [m_small (by decide)] at hL
    exact absurd hL (by show ¬ ((L + 1 : Nat) : Int) ≤ ((0 : Nat) : Int) - 1; omega)
  | k + 1, L + 1, S, hk, hv, hL => by
    have h2 : 2 ≤ S.length := by
      by_cases h : S.length < 2
      · rw [m_small h] at hL
        omega
      · omega
    rw [cbM_eq]
    cases q : (partM S F.1).find? (cbP F.1 S L) with
    | some p =>
      obtain ⟨hp, hq⟩ := find_mem q
      have a := part_lt hp false
      have b := part_lt hp true
      have hq := of_decide_eq_true hq
      have hpr := (part_mem.mp hp).1
      obtain ⟨a1, a2, a3, a4⟩ := cb_all k L (halfM S p false) (by omega) (hv.half p false) (by omega)
      obtain ⟨b1, b2, b3, b4⟩ := cb_all k L (halfM S p true) (by omega) (hv.half p true) (by omega)
      refine ⟨?_, ?_, ?_, ?_⟩
      · show (decide (0 ≤ p ∧ p < F.1) && (forceR F _ (halfM S p false) (((L + 1 : Nat) : Int) - 1) && forceR F _ (halfM S p true) (((L + 1 : Nat) : Int) - 1))) = true
        rw [show ((L + 1 : Nat) : Int) - 1 = (L : Int) by omega, decide_eq_true hpr, a1, b1]
        rfl
      · show (formedC _ && formedC _) = true
        rw [a2, b2]
        rfl
      · show max (cbM F.1 L (halfM S p false)).dep (cbM F.1 L (halfM S p true)).dep + 1 ≤ S.length + 1
        omega
      · show (TR.okT _ && TR.okT _) = true
        rw [a4, b4]
        rfl
    | none =>
      obtain ⟨p0, hp0, e0⟩ := mM_some hv h2
      have hnot : ¬ cbP F.1 S L p0 = true := fun z => by
        have := List.find?_eq_none.mp q p0 hp0
        exact this z
      have hnot : ¬ min (mM F.1 (halfM S p0 false)) (mM F.1 (halfM S p0 true)) ≥ (L : Int) := fun z => hnot (decide_eq_true z)
      have hs : ∃ T, (partM S F.1).findSome? (cbS F.1 S (L + 1)) = some T := by
        cases q2 : (partM S F.1).findSome? (cbS F.1 S (L + 1)) with
        | some T => exact ⟨T, rfl⟩
        | none =>
          exfalso
          have := List.findSome?_eq_none_iff.mp q2 p0 hp0
          unfold cbS at this
          have := List.find?_eq_none.mp this
          have x1 := this (halfM S p0 false) (by simp)
          have x2 := this (halfM S p0 true) (by simp)
          simp only [decide_eq_true_eq] at x1 x2
          unfold mVal at e0
          omega
      obtain ⟨T, hT⟩ := hs
      rw [hT]
      obtain ⟨p, hp, b, rfl, hb⟩ := cbS_mem hT
      have a := part_lt hp b
      obtain ⟨a1, a2, a3, a4⟩ := cb_all k (L + 1) (halfM S p b) (by omega) (hv.half p b) hb
      exact ⟨forceR_sets F _ S _ _ (fun f hf => (half_mem.mp hf).1) a1, a2, by show (cbM F.1 (L + 1) (halfM S p b)).dep ≤ _; omega, a4⟩
/-! ### the law's own least: a fold -/
def stepM (n : Int) (S : List (List Int)) (s : Int) (p : Int) : Int := cond ((!decide (halfM S p false = [])) && (!decide (halfM S p true = []))) (max s (mVal n S p)) s
theorem stepM_part {n : Int} {S : List (List Int)} {s p : Int} (hp : 0 ≤ p ∧ p < n) : stepM n S s p = if p ∈ partM S n then max s (mVal n S p) else s := by
  unfold stepM
  have hs := half_sum S p
  by_cases h : p ∈ partM S n
  · rw [if_pos h]
    have a := (part_lt h false).2
    have b := (part_lt h true).2
    rw [decide_eq_false (List.length_pos_iff.mp a), decide_eq_false (List.length_pos_iff.mp b)]
    rfl
  · rw [if_neg h]
    by_cases a : halfM S p false = []
    · rw [decide_eq_true a]
      rfl
    · by_cases b : halfM S p true = []
      · rw [decide_eq_true b]
        cases decide (halfM S p false = []) <;> rfl
      · exfalso
        have a := List.length_pos_iff.mpr a
        have b := List.length_pos_iff.mpr b
        exact h (part_mem.mpr ⟨hp, b, by omega⟩)
theorem foldM {n : Int} {S : List (List Int)} (hv : Val n S) (h2 : 2 ≤ S.length) : (rg 0 n.toNat).foldl (stepM n S) 0 = mM n S := by
  have hr : ∀ p ∈ rg 0 n.toNat, 0 ≤ p ∧ p < n := fun p hp => by
    have := mem_rg.mp hp
    omega
  have hi : ∀ (xs : List Int) (s : Int), (∀ p ∈ xs, 0 ≤ p ∧ p < n) → s ≤ mM n S → xs.foldl (stepM n S) s ≤ mM n S := by
    intro xs
    induction xs with
    | nil => intro s _ h; exact h
    | cons p xs ih =>
      intro s hx h
      refine ih _ (fun q hq => hx q (List.mem_cons_of_mem _ hq)) ?_
      rw [stepM_part (hx p (by simp))]
      by_cases hp : p ∈ partM S n
      · rw [if_pos hp]
        have := mM_ge hp
        omega
      · rw [if_neg hp]
        exact h
  have lo : ∀ (xs : List Int) (s : Int), (∀ p ∈ xs, 0 ≤ p ∧ p < n) → s ≤ xs.foldl (stepM n S) s ∧ ∀ p ∈ xs, p ∈ partM S n → mVal n S p ≤ xs.foldl (stepM n S) s := by
    intro xs
    induction xs with
    | nil => intro s _; exact ⟨Int.le_refl _, fun p hp => by cases hp⟩
    | cons p xs ih =>
      intro s hx
      obtain ⟨i1, i2⟩ := ih (stepM n S s p) fun q hq => hx q (List.mem_cons_of_mem _ hq)
      have e := stepM_part (S := S) (s := s) (hx p (by simp))
      have le : s ≤ stepM n S s p := by
        rw [e]
        split <;> omega
      refine ⟨Int.le_trans le i1, fun q hq hqp => ?_⟩
      rcases List.mem_cons.mp hq with rfl | hq
      · rw [if_pos hqp] at e
        have i1 : stepM n S s q ≤ xs.foldl (stepM n S) (stepM n S s q) := i1
        show _ ≤ xs.foldl (stepM n S) (stepM n S s q)
        omega
      · exact i2 q hq hqp
  obtain ⟨p, hp, e⟩ := mM_some hv h2
  have b := (lo (rg 0 n.toNat) 0 hr).2 p (by
    have := (part_mem.mp hp).1
    exact mem_rg.mpr (by omega)) hp
  have a := hi (rg 0 n.toNat) 0 hr (m_lo _ S (Nat.le_refl _) hv (by omega))
  omega
theorem sort2 (a b : Int) : getL (sortD [a, b]) 0 = min a b ∧ getL (sortD [a, b]) 1 = max a b := by
  rw [sortD_eq]
  by_cases h : a ≤ b
  · have h1 : (Ords.le a b : Bool) = true := decide_eq_true h
    have e : isort Ords.le [a, b] = [a, b] := by
      show (if Ords.le a b = true then [a, b] else [b, a]) = _
      rw [if_pos h1]
    rw [e]
    exact ⟨by show a = min a b; omega, by show b = max a b; omega⟩
  · have h1 : (Ords.le a b : Bool) = false := decide_eq_false h
    have e : isort Ords.le [a, b] = [b, a] := by
      show (if Ords.le a b = true then [a, b] else [b, a]) = _
      rw [h1, if_neg (by decide)]
    rw [e]
    exact ⟨by show b = min a b; omega, by show a = max a b; omega⟩
end Zk

namespace Zk
open PySem PySem.Spec PyProof.Rows L2

/-! ### objects that change: fields of data, at last a memo -/
structure Os where
  fs : List (Str × PyData)
  mo : Option ((List (List Int) → Int) × List (List Int))
  o1 : Option (V × Addr)
  o2 : Option V
def ObjI (P : Program) (w : World) (C : Addr) (s : Os) (F H : Hp) (v : V) (A : Addr → Prop) : Prop :=
  ∃ a dx vs, v = .ref a ∧ a ≠ dx ∧ H dx = some (.own a) ∧ vs.map (·.1) = s.fs.map (·.1) ∧ DqAll F (vs.map (·.2)) (s.fs.map (·.2)) ∧ s.fs.length ≤ 100 ∧ (∀ q, s.o1 = some q → q = (v, dx)) ∧
  match s.mo with
  | none => H a = some (.ins C dx vs) ∧ ∀ l, A l ↔ (l = a ∨ l = dx)
  | some m => ∃ d, (∀ q, s.o2 = some q → q = .ref d) ∧ H a = some (.ins C dx (vs ++ [(("known" : Str), V.ref d)])) ∧ MemI P w m.1 m.2 [] F H (.ref d) (fun l => l = d) ∧ (∀ l, A l ↔ (l = a ∨ l = dx ∨ l = d)) ∧ d ≠ a ∧ d ≠ dx
theorem MemI.mono {P : Program} {w : World} {g : List (List Int) → Int} {S0 : List (List Int)} {F F' H H' : Hp} {v : V} {A : Addr → Prop} (h : MemI P w g S0 [] F H v A) (e : Ex F F') (hA : ∀ l o, A l → H l = some o → H' l = some o) : MemI P w g S0 [] F' H' v A :=
  ((memoR P w ⟨g, S0, none⟩ []).mo (K := []) (B := fun _ => none) ⟨fun v0 h => (by cases h), h⟩ e hA).2
theorem ObjI.mono {P : Program} {w : World} {C : Addr} {s : Os} {F F' H H' : Hp} {v : V} {A : Addr → Prop} (h : ObjI P w C s F H v A) (e : Ex F F') (hA : ∀ l o, A l → H l = some o → H' l = some o) : ObjI P w C s F' H' v A := by
  obtain ⟨a, dx, vs, h1, h2, h3, h4, h5, h6, h7, h8⟩ := h
  refine ⟨a, dx, vs, h1, h2, ?_, h4, dqa_mo e _ _ h5, h6, h7, ?_⟩
  · refine hA dx _ ?_ h3
    cases q : s.mo with
    | none => rw [q] at h8; exact (h8.2 dx).mpr (.inr rfl)
    | some m => rw [q] at h8; obtain ⟨d, _, _, _, x, _⟩ := h8; exact (x dx).mpr (.inr (.inl rfl))
  · cases q : s.mo with
    | none =>
      rw [q] at h8
      exact ⟨hA a _ ((h8.2 a).mpr (.inl rfl)) h8.1, h8.2⟩
    | some m =>
      rw [q] at h8
      obtain ⟨d, x0, x1, x2, x3, x4⟩ := h8
      exact ⟨d, x0, hA a _ ((x3 a).mpr (.inl rfl)) x1, x2.mono e fun l o hl => hA l o ((x3 l).mpr (.inr (.inr hl))), x3, x4⟩
def objR (P : Program) (w : World) (C : Addr) (s : Os) : Res := ⟨fun _ _ F H v A => ObjI P w C s F H v A, fun h e hA => h.mono e hA⟩
/-! ### fields -/
theorem fld_at {F : Hp} {f : Str} {d : PyData} : ∀ {vs : List (Str × V)} {fs : List (Str × PyData)}, vs.map (·.1) = fs.map (·.1) → DqAll F (vs.map (·.2)) (fs.map (·.2)) → fs.lookup f = some d → ∀ r, ∃ u, (vs ++ r).lookup f = some u ∧ Dq F u d
  | [], [], _, _, h, _ => by cases h
  | [], _ :: _, h, _, _, _ => by cases h
  | _ :: _, [], h, _, _, _ => by cases h
  | (g, v) :: vs, (g', d') :: fs, h1, h2, h3, r => by
    simp only [List.map_cons, List.cons.injEq] at h1
    obtain ⟨rfl, h1⟩ := h1
    cases h2 with
    | cons a b =>
      rw [List.lookup_cons] at h3
      rw [List.cons_append, List.lookup_cons]
      cases q : f == g with
      | true => rw [q] at h3; cases h3; exact ⟨v, rfl, a⟩
      | false => rw [q] at h3; exact fld_at h1 b h3 r
def putD (f : Str) (d : PyData) : List (Str × PyData) → List (Str × PyData)
  | [] => [(f, d)]
  | (g, x) :: r => if g = f then (g, d) :: r else (g, x) :: putD f d r
theorem put_at {F : Hp} {f : Str} {y : V} {d : PyData} (hd : Dq F y d) : ∀ {vs : List (Str × V)} {fs : List (Str × PyData)}, vs.map (·.1) = fs.map (·.1) → DqAll F (vs.map (·.2)) (fs.map (·.2)) →
    (putF f y vs).map (·.1) = (putD f d fs).map (·.1) ∧ DqAll F ((putF f y vs).map (·.2)) ((putD f d fs).map (·.2)) ∧ (f ∈ fs.map (·.1) → ∀ r, putF f y (vs ++ r) = putF f y vs ++ r)
  | [], [], _, _ => ⟨rfl, .cons hd .nil, fun h => by cases h⟩
  | [], _ :: _, h, _ => by cases h
  | _ :: _, [], h, _ => by cases h
  | (g, v) :: vs, (g', d') :: fs, h1, h2 => by
    simp only [List.map_cons, List.cons.injEq] at h1
    obtain ⟨rfl, h1⟩ := h1
    cases h2 with
    | cons a b =>
      obtain ⟨i1, i2, i3⟩ := put_at hd h1 b
      unfold putF putD
      by_cases q : g = f
      · rw [if_pos q, if_pos q]
        refine ⟨by simp [h1], .cons hd b, fun _ r => ?_⟩
        rw [List.cons_append]
        show (if g = f then (g, y) :: (vs ++ r) else (g, v) :: putF f y (vs ++ r)) = _
        rw [if_pos q]
        rfl
      · rw [if_neg q, if_neg q]
        refine ⟨by simp [i1], .cons a i2, fun hm r => ?_⟩
        rw [List.cons_append]
        show (if g = f then (g, y) :: (vs ++ r) else (g, v) :: putF f y (vs ++ r)) = _
        rw [if_neg q]
        have hm : f ∈ fs.map (·.1) := by
          rcases List.mem_cons.mp hm with rfl | hm
          · exact absurd rfl q
          · exact hm
        rw [i3 hm r]
        rfl
theorem putD_len (f : Str) (d : PyData) : ∀ fs : List (Str × PyData), (putD f d fs).length ≤ fs.length + 1
  | [] => Nat.le_refl _
  | (g, x) :: r => by
    unfold putD
    by_cases q : g = f
    · rw [if_pos q]; simp
    · rw [if_neg q]
      have := putD_len f d r
      simp only [List.length_cons]
      omega
section
variable {X : Cx} {t : Tx} {b : Bs} {N ps : List Str} {sc : Scope} {mg : Str → Option Value} {W : Str → Bool} {Γ Γ' Γ1 Γ2 : List En} {k k' rl : Bool} {lv la lb lc : Lv} {pos pos' pp apos p1 dpos : Pos} {e e1 e2 o : Expr} {es : List Expr} {n j m : Nat} {x y f : Str} {C : Addr} {s : Os}
variable {α β γ : Type} [ia : Py α] [ib : Py β] [ic : Py γ] {p : α} {q : β}
theorem xe_ofld (cf : Cf X N sc mg W) (a : At X t n) (cl : Cls t.K C) (no : NoAttr t.K C f) (hN : N[j]? = some x) (hv : Vis sc x) (hΓ : Γ[j]? = some (.res (objR t.P t.w C s))) (hl : s.fs.lookup f = some (Py.enc p))
    (hb : attributeBase (.Name x p1) f X.env (eval (.Name x p1) X.env) = eval (.Name x p1) X.env := by rfl) (hd : (x == ("__debug__" : Str)) = false := by decide) (hcd : (x == ("__classdict__" : Str)) = false := by decide) : XE X b (.Attribute (.Name x p1) f apos) Γ (.st false) p :=
  PE.wk (pe_fld (pe_var (i := j) (by rw [cf.hN]; exact hN) (by rw [cf.hs]; exact hv) hd hcd) hb) fun σ H Q ⟨F, ok, kk⟩ => by
    obtain ⟨fp, oa⟩ := ok.get
    obtain ⟨o, ho, v, rfl, hI⟩ := oa.sl j _ hΓ
    obtain ⟨a', dx, vs, rfl, h2, h3, h4, h5, h6, h7, h8⟩ := hI
    cases hq : s.mo with
    | none =>
      rw [hq] at h8
      obtain ⟨u, hu, du⟩ := fld_at h4 h5 hl []
      rw [List.append_nil] at hu
      exact ⟨_, ho, a', C, dx, vs, u, rfl, h8.1, by rw [a.hK]; exact cl, by rw [a.hK]; exact no, hu, kk u F H (Grow.rf ok.fr.h) du⟩
    | some mm =>
      rw [hq] at h8
      obtain ⟨d, _, x1, _⟩ := h8
      obtain ⟨u, hu, du⟩ := fld_at h4 h5 hl [(("known" : Str), V.ref d)]
      exact ⟨_, ho, a', C, dx, _, u, rfl, x1, by rw [a.hK]; exact cl, by rw [a.hK]; exact no, hu, kk u F H (Grow.rf ok.fr.h) du⟩
theorem xs_ofld (cf : Cf X N sc mg W) (a : At X t n) (cl : Cls t.K C) (no : NoAttr t.K C f) (hN : N[j]? = some x) (hv : Vis sc x) (hΓ : Γ[j]? = some (.res (objR t.P t.w C s))) (he : XE X b e Γ (.st k) p) (hm : s.mo = none ∨ f ∈ s.fs.map (·.1)) (hz : (putD f (Py.enc p) s.fs).length ≤ 100)
    (hs : swapsWith e (some (.Attribute (.Name x p1) f pos')) pos.line X.env = pure false := by rfl) (hd : (x == ("__debug__" : Str)) = false := by decide) (hcd : (x == ("__classdict__" : Str)) = false := by decide) :
    XS X b rl (.Assign [.Attribute (.Name x p1) f pos'] e pos) Γ (none : Option γ) (Γ.set j (.res (objR t.P t.w C { s with fs := putD f (Py.enc p) s.fs }))) := by
  refine PS.wk (ps_fld (pe_var (i := j) (by rw [cf.hN]; exact hN) (by rw [cf.hs]; exact hv) hd hcd) he hs) fun D σ H ⟨F, ok, kk⟩ => ⟨F, ok, fun y F1 H1 g1 d1 => ?_⟩
  have d1 := dq_mo (sel2_le k) _ _ d1
  obtain ⟨fp, oa⟩ := (ok.gr g1).get
  obtain ⟨o, ho, v, rfl, hI⟩ := oa.sl j _ hΓ
  have hI' := hI
  obtain ⟨a', dx, vs, rfl, h2, h3, h4, h5, h6, h7, h8⟩ := hI
  obtain ⟨i1, i2, i3⟩ := put_at (f := f) d1 h4 h5
  have hvl : vs.length = s.fs.length := by rw [← List.length_map (f := (·.1)), h4, List.length_map]
  have fin : ∀ (vs2 : List (Str × V)), H1 a' = some (.ins C dx vs2) → vs2.length < 1000 → fp j a' → (ObjI t.P t.w C { s with fs := putD f (Py.enc p) s.fs } F1 (upd H1 a' (.ins C dx (putF f y vs2))) (.ref a') (fp j)) →
      ∃ x_1, σ[j]? = some (some x_1) ∧ ∃ a C' dx fs, x_1 = V.ref a ∧ H1 a = some (.ins C' dx fs) ∧ Cls X.K C' ∧ NoAttr X.K C' f ∧ fs.length < 1000 ∧ D.nx σ (upd H1 a (.ins C' dx (putF f y fs))) := fun vs2 hA hl2 hfa hO => by
    refine ⟨_, ho, a', C, dx, vs2, rfl, hA, by rw [a.hK]; exact cl, by rw [a.hK]; exact no, hl2, kk σ F1 _ g1.f ?_⟩
    refine (oa.mut (r' := objR t.P t.w C { s with fs := putD f (Py.enc p) s.fs }) hΓ (H' := upd H1 a' (.ins C dx (putF f y vs2))) (fun l hl => upd_ne fun z => hl (z ▸ hfa)) (fun l hl => ?_) fun w hw => ?_).ok
    · by_cases z : l = a'
      · subst z; rw [upd_same]; exact fun q => by cases q
      · rw [upd_ne z]; exact (oa.ow j l hl).1
    · rw [ho] at hw
      cases hw
      exact hO
  cases hq : s.mo with
  | none =>
    rw [hq] at h8
    refine fin vs h8.1 (by omega) ((h8.2 a').mpr (.inl rfl)) ⟨a', dx, putF f y vs, rfl, h2, by rw [upd_ne (Ne.symm h2)]; exact h3, i1, i2, hz, h7, ?_⟩
    show (match s.mo with | none => _ | some m => _)
    rw [hq]
    exact ⟨upd_same, h8.2⟩
  | some mm =>
    rw [hq] at h8
    obtain ⟨d, x0, x1, x2, x3, x4, x5⟩ := h8
    have hmem : f ∈ s.fs.map (·.1) := by
      rcases hm with z | z
      · rw [hq] at z; cases z
      · exact z
    refine fin (vs ++ [(("known" : Str), V.ref d)]) x1 (by rw [List.length_append]; simp; omega) ((x3 a').mpr (.inl rfl)) ⟨a', dx, putF f y vs, rfl, h2, by rw [upd_ne (Ne.symm h2)]; exact h3, i1, i2, hz, h7, ?_⟩
    show (match s.mo with | none => _ | some m => _)
    rw [hq]
    rw [i3 hmem]
    exact ⟨d, x0, upd_same, x2.mono (Ex.rf _) fun l o hl ho => by
      have hl : l = d := hl
      subst hl
      rw [upd_ne x4]
      exact ho, x3, x4, x5⟩
theorem xs_omem (cf : Cf X N sc mg W) (a : At X t n) (cl : Cls t.K C) (no : NoAttr t.K C "known") (hN : N[j]? = some x) (hv : Vis sc x) {fs : List (Str × PyData)} {o1 : Option (V × Addr)} (hΓ : Γ[j]? = some (.res (objR t.P t.w C ⟨fs, none, o1, none⟩))) (g : List (List Int) → Int) (S0 : List (List Int)) (hz : S0.length ≤ 16) (hk : ("known" : Str) ∉ fs.map (·.1))
    (hs : swapsWith (.Dict [] [] dpos) (some (.Attribute (.Name x p1) "known" pos')) pos.line X.env = pure false := by rfl) (hd : (x == ("__debug__" : Str)) = false := by decide) (hcd : (x == ("__classdict__" : Str)) = false := by decide) :
    XS X b rl (.Assign [.Attribute (.Name x p1) "known" pos'] (.Dict [] [] dpos) pos) Γ (none : Option γ) (Γ.set j (.res (objR t.P t.w C ⟨fs, some (g, S0), o1, none⟩))) := by
  refine PS.wk (ps_fld (pe_var (i := j) (by rw [cf.hN]; exact hN) (by rw [cf.hs]; exact hv) hd hcd) pe_mnew hs) fun D σ H ⟨F, ok, kk⟩ d hd' hn => ?_
  obtain ⟨fp, oa⟩ := ok.get
  obtain ⟨o, ho, v, rfl, hI⟩ := oa.sl j _ hΓ
  obtain ⟨a', dx, vs, rfl, h2, h3, h4, h5, h6, h7, h8a, h8b⟩ := hI
  have hFd : F d = none := ok.fr.h.no hd'
  have hda : d ≠ a' := fun z => by rw [z, h8a] at hd'; cases hd'
  have hdd : d ≠ dx := fun z => by rw [z, h3] at hd'; cases hd'
  have hputs : ∀ (vs : List (Str × V)), ("known" : Str) ∉ vs.map (·.1) → putF "known" (.ref d) vs = vs ++ [(("known" : Str), V.ref d)] := by
    intro vs
    induction vs with
    | nil => intro _; rfl
    | cons q r ih =>
      intro hq
      simp only [List.map_cons, List.mem_cons, not_or] at hq
      show (if q.1 = "known" then (q.1, V.ref d) :: r else (q.1, q.2) :: putF "known" (.ref d) r) = _
      rw [if_neg (fun z => hq.1 z.symm), ih hq.2]
      rfl
  have hvl : vs.length = fs.length := by rw [← List.length_map (f := (·.1)), h4, List.length_map]
  let H1 := upd H d (.ext (memF X.prog X.w d []))
  have e1 : H1 a' = some (.ins C dx vs) := by show upd H d _ a' = _; rw [upd_ne (Ne.symm hda)]; exact h8a
  refine ⟨_, ho, a', C, dx, vs, rfl, e1, by rw [a.hK]; exact cl, by rw [a.hK]; exact no, by have h6 : fs.length ≤ 100 := h6; omega, ?_⟩
  rw [hputs vs (by rw [h4]; exact hk)]
  refine kk σ F _ (Ex.rf F) ?_
  -- the new object's place joins the slot's region
  have fr : Frz b F (upd H1 a' (.ins C dx (vs ++ [(("known" : Str), V.ref d)]))) := by
    have nB : ∀ l, fp j l → b.B l = none := fun l hl => (oa.ow j l hl).2.2
    refine ⟨ok.fr.f, fun l u q => ?_, fun l u q => ?_, ok.fr.n⟩
    · have hl := ok.fr.h l u q
      rw [upd_ne (fun z => by rw [z, (oa.ow j a' ((h8b a').mpr (.inl rfl))).2.1] at q; cases q)]
      show upd H d _ l = _
      rw [upd_ne (fun z => by rw [z, hFd] at q; cases q)]
      exact hl
    · rw [upd_ne (fun z => by rw [z, nB a' ((h8b a').mpr (.inl rfl))] at q; cases q)]
      show upd H d _ l = _
      rw [upd_ne (fun z => by rw [z, ok.fr.b.no hd'] at q; cases q)]
      exact ok.fr.b l u q
  have keep : ∀ l u, l ≠ a' → H l = some u → (upd H1 a' (.ins C dx (vs ++ [(("known" : Str), V.ref d)]))) l = some u := fun l u hl q => by
    rw [upd_ne hl]
    show upd H d _ l = _
    rw [upd_ne (fun z => by rw [z, hd'] at q; cases q)]
    exact q
  obtain ⟨_, len, dj, ow, sl⟩ := oa
  refine ⟨fr, by simpa using len, fun i l => (i = j ∧ l = d) ∨ fp i l, fun i i' l h h' => ?_, fun i l h => ?_, fun i en he => ?_⟩
  · rcases h with ⟨rfl, rfl⟩ | h <;> rcases h' with ⟨rfl, h'⟩ | h'
    · rfl
    · exact absurd hd' (ow i' _ h').1
    · subst h'
      exact absurd hd' (ow i _ h).1
    · exact dj i i' l h h'
  · rcases h with ⟨rfl, rfl⟩ | h
    · refine ⟨?_, hFd, ok.fr.b.no hd'⟩
      rw [upd_ne hda]
      show upd H l _ l ≠ none
      rw [upd_same]
      exact fun z => by cases z
    · obtain ⟨q1, q2, q3⟩ := ow i l h
      refine ⟨?_, q2, q3⟩
      by_cases z : l = a'
      · subst z; rw [upd_same]; exact fun z => by cases z
      · cases q : H l with
        | none => exact absurd q q1
        | some u => rw [keep l u z q]; exact fun z => by cases z
  · by_cases z : j = i
    · subst z
      have hjl : j < Γ.length := by simpa using (List.getElem?_eq_some_iff.mp he).1
      rw [List.getElem?_set_self hjl] at he
      cases he
      refine ⟨_, ho, _, rfl, a', dx, vs, rfl, h2, ?_, h4, h5, h6, h7, d, fun q hq => (by cases hq), upd_same, ?_, fun l => ?_, hda, hdd⟩
      · exact keep dx _ (Ne.symm h2) h3
      · have m := memI_new (P := X.prog) (w := X.w) (g := g) (S0 := S0) (F := F) (H := H) hn hz
        rw [a.hP, a.hw] at m
        refine m.mono (Ex.rf F) fun l u hl hu => ?_
        have hl : l = d := hl
        subst hl
        rw [upd_ne hda]
        show upd H l _ l = _
        rw [a.hP, a.hw]
        exact hu
      · constructor
        · rintro (⟨_, rfl⟩ | h)
          · exact .inr (.inr rfl)
          · rcases (h8b l).mp h with r | r
            · exact .inl r
            · exact .inr (.inl r)
        · rintro (r | r | r)
          · exact .inr ((h8b l).mpr (.inl r))
          · exact .inr ((h8b l).mpr (.inr r))
          · exact .inl ⟨rfl, r⟩
    · rw [List.getElem?_set_ne z] at he
      obtain ⟨o, a1, c⟩ := sl i en he
      have same : (fun l => (i = j ∧ l = d) ∨ fp i l) = fp i := by
        funext l
        refine propext ⟨fun h => ?_, .inr⟩
        rcases h with ⟨rfl, _⟩ | h
        · exact absurd rfl z
        · exact h
      refine ⟨o, a1, ?_⟩
      show Sl X.K b F _ o en (fun l => (i = j ∧ l = d) ∨ fp i l)
      rw [same]
      exact c.gr (Ex.rf F) fun l u hl q => keep l u (fun y => z (dj j i l (y ▸ (h8b a').mpr (.inl rfl)) hl)) q
end
end Zk

namespace Zk
open PySem PySem.Spec PyProof.Rows L2

/-! ### a def with a memo, called with the memo of an object -/
def KnownAt (C : Addr) (H : Hp) (v0 v : V) : Prop := ∃ a dx vs, v0 = V.ref a ∧ H a = some (.ins C dx (vs ++ [(("known" : Str), v)]))
def tOAm (K : PySem.W.Frag) (b : Bs) (Γ : List En) (ds : List (Bool × PyData)) (j : Nat) (C : Addr) : TA := fun σ H Q => ∃ F, EnvOk K b F H σ Γ ∧ ∀ vs v v0 F' H', Ex F F' → EnvOk K b F' H' σ Γ → DqL b F' H' vs (stL ds) → σ[j]? = some (some v0) → KnownAt C H' v0 v → Q (vs ++ [v]) H'
abbrev XOAm (X : Cx) (b : Bs) (es : List Expr) (Γ : List En) (ds : List (Bool × PyData)) (j : Nat) (C : Addr) : Prop := PA X es (tOAm X.K b Γ ds j C)
theorem lookup_last : ∀ {vs : List (Str × V)} {f : Str} {v : V}, f ∉ vs.map (·.1) → (vs ++ [(f, v)]).lookup f = some v
  | [], f, v, _ => by simp [List.lookup]
  | (g, u) :: vs, f, v, h => by
    simp only [List.map_cons, List.mem_cons, not_or] at h
    rw [List.cons_append, List.lookup_cons, beq_eq_false_iff_ne.mpr h.1]
    exact lookup_last h.2
section
variable {X : Cx} {t : Tx} {b : Bs} {N ps : List Str} {sc : Scope} {mg : Str → Option Value} {W : Str → Bool} {Γ Γ' Γ1 Γ2 : List En} {k k' rl : Bool} {lv la lb lc : Lv} {pos pos' pp apos p1 dpos : Pos} {e e1 e2 o : Expr} {es : List Expr} {n j m : Nat} {x y f : Str} {C : Addr} {s : Os}
variable {α β γ : Type} [ia : Py α] [ib : Py β] [ic : Py γ] {p : α} {q : β} {ι : Type} {ins : ι → List En} {mm : ι → Mm} {out : ι → PyData}
theorem xom_nil {g : List (List Int) → Int} {S0 : List (List Int)} (cf : Cf X N sc mg W) (a : At X t n) (cl : Cls t.K C) (no : NoAttr t.K C "known") (hN : N[j]? = some x) (hv : Vis sc x) (hΓ : Γ[j]? = some (.res (objR t.P t.w C s))) (hm : s.mo = some (g, S0)) (hk : ("known" : Str) ∉ s.fs.map (·.1))
    (hb : attributeBase (.Name x p1) "known" X.env (eval (.Name x p1) X.env) = eval (.Name x p1) X.env := by rfl) (hd : (x == ("__debug__" : Str)) = false := by decide) (hcd : (x == ("__classdict__" : Str)) = false := by decide)
    (hs : starEach [.Attribute (.Name x p1) "known" apos] X.env = [(false, eval (.Attribute (.Name x p1) "known" apos) X.env)] := by rfl) : XOAm X b [.Attribute (.Name x p1) "known" apos] Γ [] j C :=
  PA.wk (pa_cons (pe_fld (pe_var (i := j) (by rw [cf.hN]; exact hN) (by rw [cf.hs]; exact hv) hd hcd) hb) pa_nil hs) fun σ H Q ⟨F, ok, kk⟩ => by
    obtain ⟨fp, oa⟩ := ok.get
    obtain ⟨o, ho, v, rfl, hI⟩ := oa.sl j _ hΓ
    obtain ⟨a', dx, vs, rfl, h2, h3, h4, h5, h6, h7, h8⟩ := hI
    rw [hm] at h8
    obtain ⟨d, x0, x1, x2, x3, x4, x5⟩ := h8
    exact ⟨_, ho, a', C, dx, _, .ref d, rfl, x1, by rw [a.hK]; exact cl, by rw [a.hK]; exact no, lookup_last (by rw [h4]; exact hk), kk [] (.ref d) _ F H (Ex.rf F) ok .nil ho ⟨a', dx, vs, rfl, x1⟩⟩
theorem xom_cons {ds : List (Bool × PyData)} (h : XM X b e Γ k p) (hr : XOAm X b es Γ ds j C) (hs : starEach (e :: es) X.env = (false, eval e X.env) :: starEach es X.env := by rfl) : XOAm X b (e :: es) Γ ((k, Py.enc p) :: ds) j C :=
  PA.wk (pa_cons h hr hs) fun σ H Q ⟨F, ok, kk⟩ => ⟨F, ok, fun v F1 H1 g1 ok1 d1 => ⟨F1, ok1, fun vs w w0 F2 H2 g2 ok2 d2 hw hk => kk (v :: vs) w w0 F2 H2 (g1.tr g2) ok2 (.cons (dq_mo (sel2_mo g2 k) _ _ d1) d2) hw hk⟩⟩
theorem set_self {r : Res} (hΓ : Γ[j]? = some (.res r)) : Γ.set j (.res r) = Γ := by
  apply List.ext_getElem?
  intro l
  by_cases z : j = l
  · subst z
    rw [List.getElem?_set_self (List.getElem?_eq_some_iff.mp hΓ).1, hΓ]
  · rw [List.getElem?_set_ne z]
theorem sel2_up {F1 H1 F' : Hp} (fz : Frz b F1 H1) : Ex (sel2 H1 F' rl) (sel2 b.B F' rl) := fun l o q => by
  cases rl with
  | false => exact q
  | true =>
    have q : sel2 H1 F' true l = some o := q
    show sel2 b.B F' true l = some o
    simp only [sel2] at q ⊢
    cases z : H1 l with
    | none => rw [z] at q; rw [fz.b.no z]; exact q
    | some u => rw [z] at q; cases q
theorem xm_fnO {g : List (List Int) → Int} {S0 : List (List Int)} {ds : List (Bool × PyData)} (c : Cf X N sc mg W) (a : At X t n) (G : FnAt t x m ps (spM t.P t.w rl ins mm out)) (hj : m ≤ n) (hg : sc.names.lookup x = some .globalImplicit) (i : ι) (hΓ : Γ[j]? = some (.res (objR t.P t.w C s))) (hm : s.mo = some (g, S0)) (hmm : (mm i).g = g ∧ (mm i).S0 = S0)
    (ha : XOAm X b (e :: es) Γ ds j C) (fit : Fit (stL ds) (ins i)) (hp : out i = Py.enc p := by rfl) (hdb : (x == ("__debug__" : Str)) = false := by decide)
    (he : starEach (e :: es) X.env = (false, eval e X.env) :: starEach es X.env := by rfl) (hpl : (backTo pos (starEach es X.env)).any (·.1) = false := by rfl) : XM X b (.Call (.Name x pp) (e :: es) [] pos) Γ rl p := by
  obtain ⟨f, fd, G, hmf, hk, hb⟩ := G.ex
  refine PE.wk (pe_call (fn_at a G) (a.hr.mono hj) (show X.env.scope.names.lookup x = _ by rw [c.hs]; exact hg) (by rw [a.hm]; exact hmf) (by rw [a.hK]; exact hk) (by rw [a.hK]; exact hb) .nil pass0 ha hdb he hpl) fun σ H Q ⟨F, ok, kk⟩ => ⟨F, ok, fun vs v v0 F1 H1 g1 ok1 d1 hσ hka => ?_⟩
  obtain ⟨fp, oa⟩ := ok1.get
  obtain ⟨o, ho, v', rfl, hI⟩ := oa.sl j _ hΓ
  rw [hσ] at ho
  cases ho
  have hI' := hI
  obtain ⟨a', dx, ws, rfl, h2, h3, h4, h5, h6, h7, h8⟩ := hI
  rw [hm] at h8
  obtain ⟨d, x0, x1, x2, x3, x4, x5⟩ := h8
  obtain ⟨a2, dx2, ws2, e1, e2⟩ := hka
  cases e1
  rw [x1] at e2
  have e3 := Option.some.inj e2
  simp only [HO.ins.injEq, true_and] at e3
  have e4 := List.append_inj_right' e3.2 rfl
  cases e4
  refine ⟨F1, i, vs, .ref d, (fun l => l = d), by rw [List.append_nil], ok1.fr.h, fit.ok d1, by rw [hmm.1, hmm.2]; exact x2, fun l hl => ?_, fun u F' H' y1 y2 y3 y4 y5 hM d' => ?_⟩
  · have hl : l = d := hl
    subst hl
    have := oa.ow j l ((x3 l).mpr (.inr (.inr rfl)))
    exact ⟨this.1, this.2.1⟩
  rw [hmm.1, hmm.2] at hM
  have oc := oa.call (r' := objR t.P t.w C s) hΓ y1 y2 (fun l o hl q => y3 l o (fun z => hl ((x3 l).mpr (.inr (.inr z)))) q) y4 (fun l hl => ?_) fun w hw => ?_
  · rw [set_self hΓ] at oc
    refine kk u F' H' (g1.tr y1) oc.ok ?_
    rw [hp] at d'
    exact dq_mo (sel2_up ok1.fr) _ _ d'
  · rcases (x3 l).mp hl with rfl | rfl | rfl
    · rw [y3 _ _ (fun z => x4 z.symm) x1]; exact fun z => by cases z
    · rw [y3 _ _ (fun z => x5 z.symm) h3]; exact fun z => by cases z
    · exact y5 _ rfl
  · rw [hσ] at hw
    cases hw
    refine ⟨a', dx, ws, rfl, h2, y3 _ _ (fun z => x5 z.symm) h3, h4, dqa_mo y1 _ _ h5, h6, h7, ?_⟩
    show (match s.mo with | none => _ | some m => _)
    rw [hm]
    exact ⟨d, x0, y3 _ _ (fun z => x4 z.symm) x1, hM, x3, x4, x5⟩
end
/-! ### promises with an object as the first argument -/
def pin (s : Os) (v : V) (dx : Addr) (d : V) : Os := { s with o1 := some (v, dx), o2 := some d }
def spO {ι : Type} (P : Program) (w : World) (C : Addr) (rl : Bool) (ins : ι → List En) (pre post : ι → Os) (out : ι → PyData) : Sp := fun vs H Q _ => ∃ F i v ws A dx d, vs = v :: ws ∧ Ex F H ∧ ArgOk F ws (ins i) ∧ ObjI P w C (pin (pre i) v dx d) F H v A ∧ (∀ l, A l → H l ≠ none ∧ F l = none) ∧
  ∀ u F' H', Ex F F' → Ex F' H' → (∀ l o, ¬ A l → H l = some o → H' l = some o) → (∀ l, H l ≠ none → F' l = F l) → (∀ l, A l → H' l ≠ none) → ObjI P w C (pin (post i) v dx d) F' H' v A → Dq (sel2 H F' rl) u (out i) → Q u H'
section
variable {t : Tx} {ι : Type} {rl : Bool} {ins : ι → List En} {pre post : ι → Os} {out : ι → PyData} {N ps : List Str} {k j : Nat} {f C : Addr} {fd : FuncData} {x : Str} {st : Stmt}
theorem ObjI.unpin {P : Program} {w : World} {s : Os} {F H : Hp} {v : V} {A : Addr → Prop} {o1 : Option (V × Addr)} {o2 : Option V} (h : ObjI P w C { s with o1 := o1, o2 := o2 } F H v A) : ObjI P w C { s with o1 := none, o2 := none } F H v A := by
  obtain ⟨a, dx, vs, h1, h2, h3, h4, h5, h6, h7, h8⟩ := h
  refine ⟨a, dx, vs, h1, h2, h3, h4, h5, h6, fun q hq => (by cases hq), ?_⟩
  revert h8
  show (match s.mo with | none => _ | some m => _) → (match s.mo with | none => _ | some m => _)
  cases s.mo with
  | none => exact fun h => h
  | some m => exact fun ⟨d, _, r⟩ => ⟨d, fun q hq => (by cases hq), r⟩
theorem ObjI.pins {P : Program} {w : World} {s : Os} {F H : Hp} {v : V} {A : Addr → Prop} (h : ObjI P w C s F H v A) (hm : s.mo.isSome = true) : ∃ dx d, ObjI P w C (pin s v dx d) F H v A ∧ ∀ s' F' H' A', s'.mo.isSome = true → ObjI P w C (pin s' v dx d) F' H' v A' → ObjI P w C { s' with o1 := s.o1, o2 := s.o2 } F' H' v A' := by
  obtain ⟨a, dx, vs, rfl, h2, h3, h4, h5, h6, h7, h8⟩ := h
  obtain ⟨m1, hm1⟩ := Option.isSome_iff_exists.mp hm
  rw [hm1] at h8
  obtain ⟨d, x0, x1, x2, x3, x4, x5⟩ := h8
  refine ⟨dx, .ref d, ⟨a, dx, vs, rfl, h2, h3, h4, h5, h6, fun q hq => (Option.some.inj hq).symm, ?_⟩, fun s' F' H' A' hm' h' => ?_⟩
  · show (match s.mo with | none => _ | some m => _)
    rw [hm1]
    exact ⟨d, fun q hq => (Option.some.inj hq).symm, x1, x2, x3, x4, x5⟩
  · obtain ⟨a2, dx2, vs2, e1, z2, z3, z4, z5, z6, z7, z8⟩ := h'
    cases e1
    cases z7 _ rfl
    obtain ⟨m2, hm2⟩ := Option.isSome_iff_exists.mp hm'
    have z8 : (match s'.mo with | none => H' a = some (.ins C dx vs2) ∧ ∀ l, A' l ↔ (l = a ∨ l = dx) | some m => ∃ d', (∀ q, some (V.ref d) = some q → q = .ref d') ∧ H' a = some (.ins C dx (vs2 ++ [(("known" : Str), V.ref d')])) ∧ MemI P w m.1 m.2 [] F' H' (.ref d') (fun l => l = d') ∧ (∀ l, A' l ↔ (l = a ∨ l = dx ∨ l = d')) ∧ d' ≠ a ∧ d' ≠ dx) := z8
    rw [hm2] at z8
    obtain ⟨d2, y0, y1, y2, y3, y4, y5⟩ := z8
    cases y0 _ rfl
    refine ⟨a, dx, vs2, rfl, z2, z3, z4, z5, z6, h7, ?_⟩
    show (match s'.mo with | none => _ | some m => _)
    rw [hm2]
    exact ⟨d, x0, y1, y2, y3, y4, y5⟩
/-- the start: the object, then data -/
theorem start_envO {R : List En} {K : PySem.W.Frag} {H F : Hp} {vs : List V} {v : V} {A : Addr → Prop} {Γ : List En} {s : Os} (e : Ex F H) (a : ArgOk F vs Γ) (hm : ObjI t.P t.w C s F H v A) (hA : ∀ l, A l → H l ≠ none ∧ F l = none) (hN : Γ.length + 1 ≤ N.length) :
    EnvOk K ⟨hole A H, F, R⟩ F H (L2.start N (v :: vs)) (.res (objR t.P t.w C s) :: Γ ++ List.replicate (N.length - (Γ.length + 1)) .no) := by
  have hl := a.len
  refine ⟨⟨Ex.rf F, e, hole_ex, fun l hl => rfl⟩, ?_, fun i => if i = 0 then A else fun _ => False, fun i i' l h h' => ?_, fun i l h => ?_, fun i en he => ?_⟩
  · unfold L2.start
    simp only [List.length_append, List.length_map, List.length_replicate, List.length_cons]
    omega
  · by_cases z : i = 0
    · by_cases z' : i' = 0
      · rw [z, z']
      · simp only [if_neg z'] at h'
    · simp only [if_neg z] at h
  · by_cases z : i = 0
    · simp only [if_pos z] at h
      exact ⟨(hA l h).1, (hA l h).2, hole_none h⟩
    · simp only [if_neg z] at h
  · unfold L2.start
    cases i with
    | zero =>
      have he : some (En.res (objR t.P t.w C s)) = some en := he
      cases he
      refine ⟨some v, rfl, v, rfl, ?_⟩
      simp only [if_true]
      exact hm
    | succ i =>
      have he : (Γ ++ List.replicate (N.length - (Γ.length + 1)) En.no)[i]? = some en := he
      show ∃ o, (vs.map some ++ List.replicate (N.length - (v :: vs).length) none)[i]? = some o ∧ _
      by_cases hi : i < Γ.length
      · rw [List.getElem?_append_left hi] at he
        obtain ⟨u, α, ia, x, hv, rfl, d⟩ := a.at i en he
        refine ⟨some u, ?_, u, rfl, d⟩
        rw [List.getElem?_append_left (by simpa using (by omega : i < vs.length)), List.getElem?_map, hv]
        rfl
      · rw [List.getElem?_append_right (by omega)] at he
        have hb := (List.getElem?_eq_some_iff.mp he).1
        rw [List.length_replicate] at hb
        rw [List.getElem?_replicate, if_pos hb] at he
        cases he
        refine ⟨none, ?_, True.intro⟩
        rw [List.getElem?_append_right (by rw [List.length_map]; omega), List.getElem?_replicate, List.length_map, if_pos (by rw [List.length_cons]; omega)]
theorem fn_okO {qual : Str} (Fn : Fun t.K x qual st f fd) (S : FnScope N ps (defScope st)) (hl : ∀ i, (ins i).length + 1 = ps.length) (hm : ∀ i, (pre i).mo.isSome = true ∧ (post i).mo.isSome = true)
    (body : ∀ (X : Cx) (b : Bs) (i : ι) (v0 : V) (dx : Addr) (d : V), Cf X N (defScope st) t.mg (fun _ => true) → At X t k → b.R = .res (objR t.P t.w C (pin (post i) v0 dx d)) :: List.replicate (N.length - 1) .no →
      PSs X (defBody st) (tS X.K b rl (.res (objR t.P t.w C (pin (pre i) v0 dx d)) :: ins i ++ List.replicate (N.length - ps.length) .no) (some (out i)) [])) :
    FnOk t.P t.w t.K t.mg t.base CX0 (k + 1) f fd ps (spO t.P t.w C rl ins pre post out) := by
  have hpl : ps.length ≤ N.length := by have := congrArg List.length S.pre; rw [List.length_take] at this; omega
  refine Fn.ok S (fun vs H Q E ⟨F, i, v, ws, A, dx, d, e, _, a, _⟩ => ?_) (fun cdv Ar outer s H vs Q E hr h => ?_)
  · rw [e, List.length_cons, a.len]
    exact hl i
  obtain ⟨F, i, v, ws, A, dx, d, rfl, e, a, hO, hA, kk⟩ := h
  have hO' := hO
  obtain ⟨a0, dx0, vs0, rfl, h2, h3, h4, h5, h6, h7, h8⟩ := hO
  cases h7 _ rfl
  obtain ⟨m1, hm1⟩ := Option.isSome_iff_exists.mp (hm i).1
  obtain ⟨m2, hm2⟩ := Option.isSome_iff_exists.mp (hm i).2
  have h8 : (match (pre i).mo with | none => H a0 = some (.ins C dx vs0) ∧ ∀ l, A l ↔ (l = a0 ∨ l = dx) | some m => ∃ d', (∀ q, some d = some q → q = .ref d') ∧ H a0 = some (.ins C dx (vs0 ++ [(("known" : Str), V.ref d')])) ∧ MemI t.P t.w m.1 m.2 [] F H (.ref d') (fun l => l = d') ∧ (∀ l, A l ↔ (l = a0 ∨ l = dx ∨ l = d')) ∧ d' ≠ a0 ∧ d' ≠ dx) := h8
  rw [hm1] at h8
  obtain ⟨d0, x0, x1, x2, x3, x4, x5⟩ := h8
  cases x0 _ rfl
  have h := body (cxOf CX0 t.P t.w t.K t.mg t.base N qual (defScope st) f cdv Ar outer s H E).nox ⟨hole A H, F, .res (objR t.P t.w C (pin (post i) (.ref a0) dx (.ref d0))) :: List.replicate (N.length - 1) .no⟩ i (.ref a0) dx (.ref d0)
    ⟨rfl, rfl, rfl, S.nd, rfl, PassesOwn.never, (by have := hr.un; show (Ar.deeper _).units + 65 < _; omega), fun _ _ => .inl rfl⟩ ⟨rfl, rfl, rfl, rfl, rfl, hr⟩ rfl
  have hs := start_envO (t := t) (N := N) (R := .res (objR t.P t.w C (pin (post i) (.ref a0) dx (.ref d0))) :: List.replicate (N.length - 1) .no) (K := t.K) e a hO' hA (by have := hl i; omega)
  rw [hl i] at hs
  refine ⟨_, h, F, hs, fun u σ' F' H' e' ok' d' => ?_⟩
  obtain ⟨fp, oa⟩ := ok'.get
  obtain ⟨o, ho, v', rfl, hP⟩ := oa.sl 0 _ rfl
  have hP' := hP
  obtain ⟨a1, dx1, vs1, rfl, z2, z3, z4, z5, z6, z7, z8⟩ := hP
  have e1 := z7 _ rfl
  cases e1
  have z8 : (match (post i).mo with | none => H' a0 = some (.ins C dx vs1) ∧ ∀ l, fp 0 l ↔ (l = a0 ∨ l = dx) | some m => ∃ d', (∀ q, some (V.ref d0) = some q → q = .ref d') ∧ H' a0 = some (.ins C dx (vs1 ++ [(("known" : Str), V.ref d')])) ∧ MemI t.P t.w m.1 m.2 [] F' H' (.ref d') (fun l => l = d') ∧ (∀ l, fp 0 l ↔ (l = a0 ∨ l = dx ∨ l = d')) ∧ d' ≠ a0 ∧ d' ≠ dx) := z8
  rw [hm2] at z8
  obtain ⟨d1, y0, y1, y2, y3, y4, y5⟩ := z8
  have e2 := y0 _ rfl
  cases e2
  have hAe : fp 0 = A := funext fun l => propext ((y3 l).trans (x3 l).symm)
  rw [hAe] at hP'
  refine kk u F' H' oa.fr.f oa.fr.h (fun l o hl q => oa.fr.b l o (by show hole A H l = some o; rw [hole_out hl]; exact q)) (fun l hl => ?_) (fun l hl => ?_) hP' (dq_mo (fun l o q => ?_) _ _ d')
  · by_cases z : A l
    · have z2 : fp 0 l := by rw [hAe]; exact z
      rw [(oa.ow _ l z2).2.1, (hA l z).2]
    · exact oa.fr.n l (by show hole A H l ≠ none; rw [hole_out z]; exact hl)
  · exact (oa.ow 0 l (by rw [hAe]; exact hl)).1
  · cases rl with
    | false => exact q
    | true =>
      simp only [sel2] at q ⊢
      have q : (match hole A H l with | none => nofrz (F' l) | some _ => none) = some o := q
      by_cases z : A l
      · rw [hole_none z] at q
        have q : nofrz (F' l) = some o := q
        rw [(oa.ow 0 l (by rw [hAe]; exact z)).2.1] at q
        cases q
      · rw [hole_out z] at q
        exact q
end
end Zk

namespace Zk
open PySem PySem.Spec PyProof.Rows L2

/-! ### the foreteller -/
structure Fo where
  pts : Int
  sets : List (List Int)
  wrong : Int
  base : List (List Int)
def foQ (s : Fo) (o1 : Option (V × Addr)) (o2 : Option V) : Os := ⟨[("points", .int s.pts), ("sets", Py.enc s.sets), ("wrong", .int s.wrong)], some (mM s.pts, s.base), o1, o2⟩
abbrev foS (s : Fo) : Os := foQ s none none
structure FoAt (t : Tx) (C : Addr) : Prop where
  cl : Cls t.K C
  np : NoAttr t.K C "points"
  ns : NoAttr t.K C "sets"
  nw : NoAttr t.K C "wrong"
  nk : NoAttr t.K C "known"
  mg : t.mg "Foreteller" = some (.ref C)
theorem sne {a b : Str} (h : decide (a = b) = false) : ¬ a = b := of_decide_eq_false h
theorem foQ_put {x : List (List Int)} {w : Int} (s : Fo) (o1 : Option (V × Addr)) (o2 : Option V) : putD "sets" (Py.enc x) (foQ s o1 o2).fs = (foQ { s with sets := x } o1 o2).fs ∧ putD "wrong" (.int w) (foQ s o1 o2).fs = (foQ { s with wrong := w } o1 o2).fs := by
  have h1 : ¬ ("points" : Str) = "sets" := by decide +kernel
  have h2 : ¬ ("points" : Str) = "wrong" := by decide +kernel
  have h3 : ¬ ("sets" : Str) = "wrong" := by decide +kernel
  simp only [foQ, putD, h1, h2, h3, if_false, if_true]
  exact ⟨trivial, trivial⟩
theorem foQ_look (s : Fo) (o1 : Option (V × Addr)) (o2 : Option V) : (foQ s o1 o2).fs.lookup ("points" : Str) = some (PyData.int s.pts) ∧ (foQ s o1 o2).fs.lookup ("sets" : Str) = some (Py.enc s.sets) ∧ (foQ s o1 o2).fs.lookup ("wrong" : Str) = some (PyData.int s.wrong) := by
  have e : ∀ {a b : Str}, ¬ a = b → (a == b) = false := fun h => beq_eq_false_iff_ne.mpr h
  have h1 : (("sets" : Str) == "points") = false := e (by decide +kernel)
  have h2 : (("wrong" : Str) == "points") = false := e (by decide +kernel)
  have h3 : (("wrong" : Str) == "sets") = false := e (by decide +kernel)
  refine ⟨?_, ?_, ?_⟩ <;> simp [foQ, List.lookup, h1, h2, h3]
theorem foQ_known (s : Fo) (o1 : Option (V × Addr)) (o2 : Option V) : ("known" : Str) ∉ (foQ s o1 o2).fs.map (·.1) := by
  show ("known" : Str) ∉ (["points", "sets", "wrong"] : List Str)
  decide +kernel
section
variable {X : Cx} {t : Tx} {b : Bs} {N ps : List Str} {sc : Scope} {mg : Str → Option Value} {W : Str → Bool} {Γ Γ' Γ1 Γ2 : List En} {k k' rl : Bool} {lv la lb lc : Lv} {pos pos' pp apos p1 dpos : Pos} {e e1 e2 o : Expr} {es : List Expr} {n j m : Nat} {x y f : Str} {C : Addr} {s : Fo} {o1 : Option (V × Addr)} {o2 : Option V}
variable {α β γ : Type} [ia : Py α] [ib : Py β] [ic : Py γ] {p : α} {q : β} {ι : Type} {ins : ι → List En} {mm : ι → Mm} {out : ι → PyData}
theorem xe_foP (cf : Cf X N sc mg W) (a : At X t n) (A : FoAt t C) (hN : N[j]? = some x) (hv : Vis sc x) (hΓ : Γ[j]? = some (.res (objR t.P t.w C (foQ s o1 o2))))
    (hb : attributeBase (.Name x p1) "points" X.env (eval (.Name x p1) X.env) = eval (.Name x p1) X.env := by rfl) (hd : (x == ("__debug__" : Str)) = false := by decide) (hcd : (x == ("__classdict__" : Str)) = false := by decide) : XE X b (.Attribute (.Name x p1) "points" apos) Γ (.st false) s.pts :=
  xe_ofld (p := s.pts) cf a A.cl A.np hN hv hΓ (foQ_look s o1 o2).1 hb hd hcd
theorem xe_foS (cf : Cf X N sc mg W) (a : At X t n) (A : FoAt t C) (hN : N[j]? = some x) (hv : Vis sc x) (hΓ : Γ[j]? = some (.res (objR t.P t.w C (foQ s o1 o2))))
    (hb : attributeBase (.Name x p1) "sets" X.env (eval (.Name x p1) X.env) = eval (.Name x p1) X.env := by rfl) (hd : (x == ("__debug__" : Str)) = false := by decide) (hcd : (x == ("__classdict__" : Str)) = false := by decide) : XE X b (.Attribute (.Name x p1) "sets" apos) Γ (.st false) s.sets :=
  xe_ofld (p := s.sets) cf a A.cl A.ns hN hv hΓ (foQ_look s o1 o2).2.1 hb hd hcd
theorem xe_foW (cf : Cf X N sc mg W) (a : At X t n) (A : FoAt t C) (hN : N[j]? = some x) (hv : Vis sc x) (hΓ : Γ[j]? = some (.res (objR t.P t.w C (foQ s o1 o2))))
    (hb : attributeBase (.Name x p1) "wrong" X.env (eval (.Name x p1) X.env) = eval (.Name x p1) X.env := by rfl) (hd : (x == ("__debug__" : Str)) = false := by decide) (hcd : (x == ("__classdict__" : Str)) = false := by decide) : XE X b (.Attribute (.Name x p1) "wrong" apos) Γ (.st false) s.wrong :=
  xe_ofld (p := s.wrong) cf a A.cl A.nw hN hv hΓ (foQ_look s o1 o2).2.2 hb hd hcd
theorem xs_foS {S' : List (List Int)} (cf : Cf X N sc mg W) (a : At X t n) (A : FoAt t C) (hN : N[j]? = some x) (hv : Vis sc x) (hΓ : Γ[j]? = some (.res (objR t.P t.w C (foQ s o1 o2)))) (he : XE X b e Γ (.st k) S')
    (hs : swapsWith e (some (.Attribute (.Name x p1) "sets" pos')) pos.line X.env = pure false := by rfl) (hd : (x == ("__debug__" : Str)) = false := by decide) (hcd : (x == ("__classdict__" : Str)) = false := by decide) :
    XS X b rl (.Assign [.Attribute (.Name x p1) "sets" pos'] e pos) Γ (none : Option γ) (Γ.set j (.res (objR t.P t.w C (foQ { s with sets := S' } o1 o2)))) := by
  have e1 := (foQ_put (x := S') (w := 0) s o1 o2).1
  have h := xs_ofld (γ := γ) (rl := rl) (pos := pos) (f := "sets") (s := foQ s o1 o2) cf a A.cl A.ns hN hv hΓ he (.inr (by show ("sets" : Str) ∈ (["points", "sets", "wrong"] : List Str); decide +kernel)) (by rw [e1]; show 3 ≤ 100; decide) hs hd hcd
  rw [e1] at h
  exact h
theorem xs_foW {w' : Int} (cf : Cf X N sc mg W) (a : At X t n) (A : FoAt t C) (hN : N[j]? = some x) (hv : Vis sc x) (hΓ : Γ[j]? = some (.res (objR t.P t.w C (foQ s o1 o2)))) (he : XE X b e Γ (.st k) w')
    (hs : swapsWith e (some (.Attribute (.Name x p1) "wrong" pos')) pos.line X.env = pure false := by rfl) (hd : (x == ("__debug__" : Str)) = false := by decide) (hcd : (x == ("__classdict__" : Str)) = false := by decide) :
    XS X b rl (.Assign [.Attribute (.Name x p1) "wrong" pos'] e pos) Γ (none : Option γ) (Γ.set j (.res (objR t.P t.w C (foQ { s with wrong := w' } o1 o2)))) := by
  have e1 := (foQ_put (x := []) (w := w') s o1 o2).2
  have h := xs_ofld (γ := γ) (rl := rl) (pos := pos) (f := "wrong") (s := foQ s o1 o2) cf a A.cl A.nw hN hv hΓ he (.inr (by show ("wrong" : Str) ∈ (["points", "sets", "wrong"] : List Str); decide +kernel)) (by rw [show (Py.enc w' : PyData) = .int w' from rfl, e1]; show 3 ≤ 100; decide) hs hd hcd
  rw [show (Py.enc w' : PyData) = .int w' from rfl, e1] at h
  exact h
/-! the making, field by field -/
theorem xs_fo1 {n' : Int} (cf : Cf X N sc mg W) (a : At X t n) (A : FoAt t C) (hN : N[j]? = some x) (hv : Vis sc x) (hΓ : Γ[j]? = some (.res (objR t.P t.w C ⟨[], none, o1, none⟩))) (he : XE X b e Γ (.st k) n')
    (hs : swapsWith e (some (.Attribute (.Name x p1) "points" pos')) pos.line X.env = pure false := by rfl) (hd : (x == ("__debug__" : Str)) = false := by decide) (hcd : (x == ("__classdict__" : Str)) = false := by decide) :
    XS X b rl (.Assign [.Attribute (.Name x p1) "points" pos'] e pos) Γ (none : Option γ) (Γ.set j (.res (objR t.P t.w C ⟨[("points", .int n')], none, o1, none⟩))) :=
  xs_ofld (f := "points") (s := ⟨[], none, o1, none⟩) cf a A.cl A.np hN hv hΓ he (.inl rfl) (by show 1 ≤ 100; decide) hs hd hcd
theorem xs_fo2 {n' : Int} {S' : List (List Int)} (cf : Cf X N sc mg W) (a : At X t n) (A : FoAt t C) (hN : N[j]? = some x) (hv : Vis sc x) (hΓ : Γ[j]? = some (.res (objR t.P t.w C ⟨[("points", .int n')], none, o1, none⟩))) (he : XE X b e Γ (.st k) S')
    (hs : swapsWith e (some (.Attribute (.Name x p1) "sets" pos')) pos.line X.env = pure false := by rfl) (hd : (x == ("__debug__" : Str)) = false := by decide) (hcd : (x == ("__classdict__" : Str)) = false := by decide) :
    XS X b rl (.Assign [.Attribute (.Name x p1) "sets" pos'] e pos) Γ (none : Option γ) (Γ.set j (.res (objR t.P t.w C ⟨[("points", .int n'), ("sets", Py.enc S')], none, o1, none⟩))) := by
  have h1 : ¬ ("points" : Str) = "sets" := by decide +kernel
  have e1 : putD "sets" (Py.enc S') ([(("points" : Str), PyData.int n')]) = ([(("points" : Str), PyData.int n'), (("sets" : Str), Py.enc S')] : List (Str × PyData)) := by simp only [putD, h1, if_false]
  have h := xs_ofld (γ := γ) (rl := rl) (pos := pos) (f := "sets") (s := ⟨[("points", .int n')], none, o1, none⟩) cf a A.cl A.ns hN hv hΓ he (.inl rfl) (by rw [e1]; show 2 ≤ 100; decide) hs hd hcd
  rw [e1] at h
  exact h
theorem xs_fo3 {n' w' : Int} {S' : List (List Int)} (cf : Cf X N sc mg W) (a : At X t n) (A : FoAt t C) (hN : N[j]? = some x) (hv : Vis sc x) (hΓ : Γ[j]? = some (.res (objR t.P t.w C ⟨[("points", .int n'), ("sets", Py.enc S')], none, o1, none⟩))) (he : XE X b e Γ (.st k) w')
    (hs : swapsWith e (some (.Attribute (.Name x p1) "wrong" pos')) pos.line X.env = pure false := by rfl) (hd : (x == ("__debug__" : Str)) = false := by decide) (hcd : (x == ("__classdict__" : Str)) = false := by decide) :
    XS X b rl (.Assign [.Attribute (.Name x p1) "wrong" pos'] e pos) Γ (none : Option γ) (Γ.set j (.res (objR t.P t.w C ⟨[("points", .int n'), ("sets", Py.enc S'), ("wrong", .int w')], none, o1, none⟩))) := by
  have h1 : ¬ ("points" : Str) = "wrong" := by decide +kernel
  have h2 : ¬ ("sets" : Str) = "wrong" := by decide +kernel
  have e1 : putD "wrong" (PyData.int w') ([(("points" : Str), PyData.int n'), (("sets" : Str), Py.enc S')]) = ([(("points" : Str), PyData.int n'), (("sets" : Str), Py.enc S'), (("wrong" : Str), PyData.int w')] : List (Str × PyData)) := by simp only [putD, h1, h2, if_false]
  have h := xs_ofld (γ := γ) (rl := rl) (pos := pos) (f := "wrong") (s := ⟨[("points", .int n'), ("sets", Py.enc S')], none, o1, none⟩) cf a A.cl A.nw hN hv hΓ he (.inl rfl) (by rw [show (Py.enc w' : PyData) = .int w' from rfl, e1]; show 3 ≤ 100; decide) hs hd hcd
  rw [show (Py.enc w' : PyData) = .int w' from rfl, e1] at h
  exact h
theorem xs_fo4 {n' w' : Int} {S' S0 : List (List Int)} (cf : Cf X N sc mg W) (a : At X t n) (A : FoAt t C) (hN : N[j]? = some x) (hv : Vis sc x) (hΓ : Γ[j]? = some (.res (objR t.P t.w C ⟨[("points", .int n'), ("sets", Py.enc S'), ("wrong", .int w')], none, o1, none⟩))) (hz : S0.length ≤ 16)
    (hs : swapsWith (.Dict [] [] dpos) (some (.Attribute (.Name x p1) "known" pos')) pos.line X.env = pure false := by rfl) (hd : (x == ("__debug__" : Str)) = false := by decide) (hcd : (x == ("__classdict__" : Str)) = false := by decide) :
    XS X b rl (.Assign [.Attribute (.Name x p1) "known" pos'] (.Dict [] [] dpos) pos) Γ (none : Option γ) (Γ.set j (.res (objR t.P t.w C (foQ ⟨n', S', w', S0⟩ o1 none)))) :=
  xs_omem cf a A.cl A.nk hN hv hΓ (mM n') S0 hz (by show ("known" : Str) ∉ (["points", "sets", "wrong"] : List Str); decide +kernel) hs hd hcd
/-! ### calls that change the environment -/
def tCh (K : PySem.W.Frag) (b : Bs) (Γ Γ' : List En) (k : Bool) (d : PyData) : TE := fun σ H Q => ∃ F, EnvOk K b F H σ Γ ∧ ∀ v F' H', Ex F F' → EnvOk K b F' H' σ Γ' → Dq (sel2 b.B F' k) v d → Q v H'
abbrev XC (X : Cx) (b : Bs) (e : Expr) (Γ : List En) (k : Bool) {α : Type} [Py α] (a : α) (Γ' : List En) : Prop := PE X e (tCh X.K b Γ Γ' k (Py.enc a))
theorem xm_xc (h : XC X b e Γ k p Γ) : XM X b e Γ k p := h
theorem xs_asgC {tg : Expr} {js : List Nat} (h : XC X b e Γ k p Γ1) (hg : XG X b tg Γ1 k p js Γ') (hs : swapsWithSole [tg] e pos.line X.env = pure false := by rfl) (hw : swappedStores [tg] e X.env = pure none := by rfl)
    (h1 : (assignEach [tg] X.env).map (·.2) = [assign tg X.env] := by rfl) : XS X b rl (.Assign [tg] e pos) Γ (none : Option γ) Γ' :=
  PS.wk (ps_asg h hg hs hw h1) fun D σ H ⟨F, ok, kk⟩ => ⟨F, ok, fun v F' H' g ok1 d => ⟨F', ok1, d, fun σ' ok' _ _ => kk σ' F' H' g ok'⟩⟩
theorem xs_exprC (h : XC X b e Γ k p Γ') (hsw : swapsWith e none pos.line X.env = pure false := by rfl) : XS X b rl (.Expr e pos) Γ (none : Option γ) Γ' :=
  PS.wk (ps_expr h hsw) fun D σ H ⟨F, ok, kk⟩ => ⟨F, ok, fun v F' H' g ok1 d => kk σ F' H' g ok1⟩
theorem look_none : ∀ {vs : List (Str × V)} {f : Str}, f ∉ vs.map (·.1) → vs.lookup f = none
  | [], _, _ => rfl
  | (g, u) :: vs, f, h => by
    simp only [List.map_cons, List.mem_cons, not_or] at h
    rw [List.lookup_cons, beq_eq_false_iff_ne.mpr h.1]
    exact look_none h.2
variable {os os' : Os} {pre post : ι → Os}
/-- behind a call with an object -/
theorem EnvOk.callO {K : PySem.W.Frag} {F1 H1 : Hp} {σ : L2.St} {i : ι} {v : V} {ws : List V} {d : PyData} {Q : VK} {E : XK} (ok1 : EnvOk K b F1 H1 σ Γ) (hΓ : Γ[j]? = some (.res (objR t.P t.w C os))) (hpre : ∀ v dx d, pin os v dx d = pin (pre i) v dx d) (hmo : os.mo.isSome = true ∧ (post i).mo.isSome = true) (hσ : σ[j]? = some (some v)) (ha : ArgOk F1 ws (ins i)) (ho : out i = d)
    (kk : ∀ u F' H', Ex F1 F' → EnvOk K b F' H' σ (Γ.set j (.res (objR t.P t.w C { post i with o1 := os.o1, o2 := os.o2 }))) → Dq (sel2 b.B F' rl) u d → Q u H') : spO t.P t.w C rl ins pre post out (v :: ws) H1 Q E := by
  obtain ⟨fp, oa⟩ := ok1.get
  obtain ⟨o, ho', v', rfl, hI⟩ := oa.sl j _ hΓ
  rw [hσ] at ho'
  cases ho'
  have hI : ObjI t.P t.w C os F1 H1 v (fp j) := hI
  obtain ⟨dx, dd, hp, hb⟩ := hI.pins hmo.1
  refine ⟨F1, i, v, ws, fp j, dx, dd, rfl, ok1.fr.h, ha, by rw [← hpre]; exact hp, fun l hl => ⟨(oa.ow j l hl).1, (oa.ow j l hl).2.1⟩, fun u F' H' h1 h2 h3 h4 h5 hI' d' => ?_⟩
  have oc := oa.call (r' := objR t.P t.w C { post i with o1 := os.o1, o2 := os.o2 }) hΓ h1 h2 h3 h4 h5 fun w hw => by
    rw [hσ] at hw
    cases hw
    exact hb _ _ _ _ hmo.2 hI'
  refine kk u F' H' h1 oc.ok ?_
  rw [ho] at d'
  exact dq_mo (sel2_up ok1.fr) _ _ d'
theorem obj_is {K : PySem.W.Frag} {F1 H1 : Hp} {σ : L2.St} (ok1 : EnvOk K b F1 H1 σ Γ) (hΓ : Γ[j]? = some (.res (objR t.P t.w C os))) {m' : Str} (hm : m' ∉ os.fs.map (·.1)) (hk : ¬ m' = "known") : ∃ a dx vs, σ[j]? = some (some (.ref a)) ∧ H1 a = some (.ins C dx vs) ∧ vs.lookup m' = none := by
  obtain ⟨fp, oa⟩ := ok1.get
  obtain ⟨o, ho', v', rfl, hI⟩ := oa.sl j _ hΓ
  obtain ⟨a', dx, vs, rfl, h2, h3, h4, h5, h6, h7, h8⟩ := hI
  cases q : os.mo with
  | none =>
    rw [q] at h8
    exact ⟨a', dx, vs, ho', h8.1, look_none (by rw [h4]; exact hm)⟩
  | some mm =>
    rw [q] at h8
    obtain ⟨d, _, x1, _⟩ := h8
    refine ⟨a', dx, _, ho', x1, look_none ?_⟩
    rw [List.map_append, List.mem_append, h4]
    intro z
    rcases z with z | z
    · exact hm z
    · exact hk (by simpa using z)
theorem xc_meth {ds : List (Lv × PyData)} {m' : Str} {pl : Sem Bool} (cf : Cf X N sc mg W) (a : At X t n) (cl : Cls t.K C) (G : MethAt t C m' m ps (spO t.P t.w C rl ins pre post out)) (hj : Nat.ble m n = true) (hN : N[j]? = some x) (hv : Vis sc x) (i : ι) (hΓ : Γ[j]? = some (.res (objR t.P t.w C os))) (hpre : ∀ v dx d, pin os v dx d = pin (pre i) v dx d) (hmo : os.mo.isSome = true ∧ (post i).mo.isSome = true) (hm : m' ∉ os.fs.map (·.1)) (hk : ¬ m' = "known")
    (ha : XA X b (e :: es) Γ ds) (fit : Fit ds (ins i)) (hp : out i = Py.enc p := by rfl) (hd : (x == ("__debug__" : Str)) = false := by decide) (hcd : (x == ("__classdict__" : Str)) = false := by decide)
    (he : starEach (e :: es) X.env = (false, eval e X.env) :: starEach es X.env := by rfl) (hpl : (backTo pos (starEach es X.env)).any (·.1) = false := by rfl)
    (ht : eval (.Call (.Attribute (.Name x p1) m' apos) (e :: es) [] pos) X.env = (do
      let ov ← eval (.Name x p1) X.env
      standAt apos.atName
      let (f, first) ← holding [ov] (getMethod ov m' pl)
      callWith pos f first (backTo pos (starEach (e :: es) X.env)) (backToKw pos (keywordEach [] X.env))) := by rfl) :
    XC X b (.Call (.Attribute (.Name x p1) m' apos) (e :: es) [] pos) Γ rl p (Γ.set j (.res (objR t.P t.w C { post i with o1 := os.o1, o2 := os.o2 }))) := by
  obtain ⟨f, fd, G, hmt, hb⟩ := G.ex
  refine PE.wk (pe_meth (pl := pl) (pe_var (i := j) (by rw [cf.hN]; exact hN) (by rw [cf.hs]; exact hv) hd hcd) (by rw [a.hK]; exact cl) (by rw [a.hK]; exact hmt) (fn_at a G) (a.hr.mono (Nat.le_of_ble_eq_true hj)) (by rw [a.hK]; exact hb) .nil pass0 ha he hpl ht) ?_
  rintro σ H Q ⟨F, ok, kk⟩
  obtain ⟨a', dx, vs, h1, h2, h3⟩ := obj_is ok hΓ hm hk
  refine ⟨_, h1, a', dx, vs, rfl, h2, h3, F, ok, fun ws F1 H1 g1 d1 => ?_⟩
  show spO t.P t.w C rl ins pre post out (V.ref a' :: (ws ++ [])) H1 Q _
  rw [List.append_nil]
  exact (ok.gr g1).callO hΓ hpre hmo h1 (fit.ok d1) hp fun u F' H' g ok' d => kk u F' H' (g1.f.tr g) ok' d
theorem xc_meth0 {m' : Str} {pl : Sem Bool} (cf : Cf X N sc mg W) (a : At X t n) (cl : Cls t.K C) (G : MethAt t C m' m ps (spO t.P t.w C rl ins pre post out)) (hj : Nat.ble m n = true) (hN : N[j]? = some x) (hv : Vis sc x) (i : ι) (hΓ : Γ[j]? = some (.res (objR t.P t.w C os))) (hpre : ∀ v dx d, pin os v dx d = pin (pre i) v dx d) (hmo : os.mo.isSome = true ∧ (post i).mo.isSome = true) (hm : m' ∉ os.fs.map (·.1)) (hk : ¬ m' = "known")
    (hi : ins i = []) (hp : out i = Py.enc p := by rfl) (hd : (x == ("__debug__" : Str)) = false := by decide) (hcd : (x == ("__classdict__" : Str)) = false := by decide)
    (ht : eval (.Call (.Attribute (.Name x p1) m' apos) [] [] pos) X.env = (do
      let ov ← eval (.Name x p1) X.env
      standAt apos.atName
      let (f, first) ← holding [ov] (getMethod ov m' pl)
      callWith pos f first (backTo pos (starEach [] X.env)) (backToKw pos (keywordEach [] X.env))) := by rfl) :
    XC X b (.Call (.Attribute (.Name x p1) m' apos) [] [] pos) Γ rl p (Γ.set j (.res (objR t.P t.w C { post i with o1 := os.o1, o2 := os.o2 }))) := by
  obtain ⟨f, fd, G, hmt, hb⟩ := G.ex
  refine PE.wk (pe_meth0 (pl := pl) (pe_var (i := j) (by rw [cf.hN]; exact hN) (by rw [cf.hs]; exact hv) hd hcd) (by rw [a.hK]; exact cl) (by rw [a.hK]; exact hmt) (fn_at a G) (a.hr.mono (Nat.le_of_ble_eq_true hj)) (by rw [a.hK]; exact hb) .nil pass0 ht) ?_
  rintro σ H Q ⟨F, ok, kk⟩
  obtain ⟨a', dx, vs, h1, h2, h3⟩ := obj_is ok hΓ hm hk
  refine ⟨_, h1, a', dx, vs, rfl, h2, h3, ?_⟩
  exact ok.callO (ws := []) (E := fun _ _ _ => False) hΓ hpre hmo h1 (by rw [hi]; exact .nil) hp fun u F' H' g ok' d => kk u F' H' g ok' d
/-- a plain def, arguments of effects -/
theorem xm_fnI {ds : List (Bool × PyData)} (c : Cf X N sc mg W) (a : At X t n) (G : FnAt t x m ps (spI rl ins out)) (hj : Nat.ble m n = true) (hg : sc.names.lookup x = some .globalImplicit)
    (i : ι) (ha : XMA X b (e :: es) Γ ds) (fit : Fit (stL ds) (ins i)) (hp : out i = Py.enc p := by rfl) (hdb : (x == ("__debug__" : Str)) = false := by decide)
    (he : starEach (e :: es) X.env = (false, eval e X.env) :: starEach es X.env := by rfl) (hpl : (backTo pos (starEach es X.env)).any (·.1) = false := by rfl) : XM X b (.Call (.Name x pp) (e :: es) [] pos) Γ rl p := by
  obtain ⟨f, fd, G, hm, hk, hb⟩ := G.ex
  refine PE.wk (pe_call (fn_at a G) (a.hr.mono (Nat.le_of_ble_eq_true hj)) (show X.env.scope.names.lookup x = _ by rw [c.hs]; exact hg) (by rw [a.hm]; exact hm) (by rw [a.hK]; exact hk) (by rw [a.hK]; exact hb) .nil pass0 ha hdb he hpl) fun σ H Q ⟨F, ok, kk⟩ => ⟨F, ok, fun vs F1 H1 g1 ok1 d1 => ?_⟩
  refine ⟨F1, i, ok1.fr.h, ?_, fun v F' H' g d => kk v F' H' (g1.tr g.f) (ok1.gr g) ?_⟩
  · rw [List.append_nil]
    exact fit.ok d1
  · rw [hp] at d
    exact dq_mo (sel2_up ok1.fr) _ _ d
/-! ### a new object -/
def tNw (K : PySem.W.Frag) (b : Bs) (Γ : List En) (r : Res) : TE := fun σ H Q => ∃ F, EnvOk K b F H σ Γ ∧ ∀ v A F' H', Grow F H F' H' → (∀ l, A l → H l = none ∧ H' l ≠ none ∧ F' l = none) → r.R K b.B F' H' v A → Q v H'
abbrev XN (X : Cx) (b : Bs) (e : Expr) (Γ : List En) (r : Res) : Prop := PE X e (tNw X.K b Γ r)
theorem xs_asgN {r : Res} {xpos : Pos} (cf : Cf X N sc mg W) (hN : N[j]? = some x) (hx : L2.Loc sc x) (hW : W x = true) (h : XN X b e Γ r) (hs : swapsWithSole [.Name x xpos] e pos.line X.env = pure false := by rfl) (hw : swappedStores [.Name x xpos] e X.env = pure none := by rfl)
    (h1 : (assignEach [.Name x xpos] X.env).map (·.2) = [assign (.Name x xpos) X.env] := by rfl) : XS X b rl (.Assign [.Name x xpos] e pos) Γ (none : Option γ) (Γ.set j (.res r)) := by
  have hx' : L2.Loc X.env.scope x := by rw [cf.hs]; exact hx
  exact PS.wk (ps_asg h (pg_name (i := j) (by rw [cf.hN]; exact cf.nd) (by rw [cf.hN]; exact hN) hx' (cf.fn x hW)) hs hw h1) fun D σ H ⟨F, ok, kk⟩ => ⟨F, ok, fun v A F' H' g hA hr => kk _ F' H' g.f (ok.newR g hA hr j)⟩
/-- x, y = a new object, data -/
theorem xs_parN1 {i j : Nat} {r : Res} {px pt py : Pos} {kt k2 pt2} (c : Cf X N sc mg W) (hi : N[i]? = some x) (hj : N[j]? = some y) (hij : i ≠ j) (hx : sc.names.lookup x = some .local) (hy : sc.names.lookup y = some .local)
    (h1 : XN X b e1 Γ r) (h2 : XE X b e2 Γ (.st k) q) (hw : swappedStores [.Tuple [.Name x px, .Name y py] kt pt] (.Tuple [e1, e2] k2 pt2) X.env = pure (some [x, y]))
    (hs1 : starEach [e1, e2] X.env = (false, eval e1 X.env) :: starEach [e2] X.env := by rfl) (hs2 : starEach [e2] X.env = [(false, eval e2 X.env)] := by rfl) :
    XS X b rl (.Assign [.Tuple [.Name x px, .Name y py] kt pt] (.Tuple [e1, e2] k2 pt2) pos) Γ (none : Option γ) ((Γ.set i (.res r)).set j (.dat β ib k q)) :=
  PS.wk (ps_par c.calm (by rw [c.hN]; exact c.nd) (by rw [c.hN]; exact hi) (by rw [c.hN]; exact hj) hij (by rw [c.hs]; exact hx) (by rw [c.hs]; exact hy) (pa_cons h1 (pa_cons h2 pa_nil hs2) hs1) hw rfl) fun D σ H ⟨F, ok, kk⟩ => ⟨F, ok, fun v A F1 H1 g1 hA hr => ⟨F1, ok.gr g1, fun w F2 H2 g2 d2 => by
    refine ⟨v, w, rfl, kk _ F2 H2 (g1.f.tr g2.f) ?_⟩
    have r1 := (ok.newR g1 hA hr i).gr g2
    exact r1.setD d2 j⟩⟩
/-- x, y = data, a new object -/
theorem xs_parN2 {i j : Nat} {r : Res} {px pt py : Pos} {kt k2 pt2} (c : Cf X N sc mg W) (hi : N[i]? = some x) (hj : N[j]? = some y) (hij : i ≠ j) (hx : sc.names.lookup x = some .local) (hy : sc.names.lookup y = some .local)
    (h1 : XE X b e1 Γ (.st k) q) (h2 : XN X b e2 Γ r) (hw : swappedStores [.Tuple [.Name x px, .Name y py] kt pt] (.Tuple [e1, e2] k2 pt2) X.env = pure (some [x, y]))
    (hs1 : starEach [e1, e2] X.env = (false, eval e1 X.env) :: starEach [e2] X.env := by rfl) (hs2 : starEach [e2] X.env = [(false, eval e2 X.env)] := by rfl) :
    XS X b rl (.Assign [.Tuple [.Name x px, .Name y py] kt pt] (.Tuple [e1, e2] k2 pt2) pos) Γ (none : Option γ) ((Γ.set i (.dat β ib k q)).set j (.res r)) :=
  PS.wk (ps_par c.calm (by rw [c.hN]; exact c.nd) (by rw [c.hN]; exact hi) (by rw [c.hN]; exact hj) hij (by rw [c.hs]; exact hx) (by rw [c.hs]; exact hy) (pa_cons h1 (pa_cons h2 pa_nil hs2) hs1) hw rfl) fun D σ H ⟨F, ok, kk⟩ => ⟨F, ok, fun v F1 H1 g1 d1 => ⟨F1, ok.gr g1, fun w A F2 H2 g2 hA hr => by
    refine ⟨v, w, rfl, kk _ F2 H2 (g1.f.tr g2.f) ?_⟩
    have r1 := (ok.gr g1).setD d1 i
    exact r1.newR g2 hA hr j⟩⟩
end
end Zk

namespace Zk
open PySem PySem.Spec PyProof.Rows L2

/-! ### the making of an object that changes -/
def spNI {ι : Type} (P : Program) (w : World) (C : Addr) (ins : ι → List En) (post : ι → Os) : Sp := fun vs H Q _ => ∃ (F : Hp) (i : ι) (p dx : Addr) (ws : List V), vs = .ref p :: ws ∧ p ≠ dx ∧ Ex F H ∧ ArgOk F ws (ins i) ∧ H p = some (.ins C dx []) ∧ H dx = some (.own p) ∧ F p = none ∧ F dx = none ∧
  ∀ (F' H' : Hp) (A : Addr → Prop), Ex F F' → Ex F' H' → (∀ l o, l ≠ p → l ≠ dx → H l = some o → H' l = some o) → (∀ l, H l ≠ none → F' l = F l) → (∀ l, A l → H' l ≠ none ∧ F' l = none ∧ (l = p ∨ l = dx ∨ H l = none)) → ObjI P w C (post i) F' H' (.ref p) A → Q .non H'
structure MkAt (t : Tx) (x : Str) (C : Addr) (j : Nat) (ps : List Str) (sp : Sp) : Prop where
  ex : ∃ f fd, FnOk t.P t.w t.K t.mg t.base CX0 j f fd ps sp ∧ Mk t.K C f ∧ Binds t.K fd ps []
  mg : t.mg x = some (.ref C)
structure DefI (t : Tx) (x : Str) (C : Addr) (q : Str) (st : Stmt) : Prop where
  ex : ∃ f fd, Fun t.K "__init__" q st f fd ∧ Mk t.K C f
  mg : t.mg x = some (.ref C)
section
variable {t : Tx} {ι : Type} {rl : Bool} {ins : ι → List En} {pre post : ι → Os} {out : ι → PyData} {N ps : List Str} {k j : Nat} {f C : Addr} {fd : FuncData} {x m q : Str} {st : Stmt}
theorem mk_def (D : DefI t x C q st) (S : FnScope N ps (defScope st))
    (hb : ∀ (kV doc pm : Value) (an : Option Addr) (cdv ct : Value) (us : List Value), us.length = ps.length → bindArgs (PySem.W.fnOf "__init__" q (defArgs st) (defBody st) (defScope st) .none kV doc pm an cdv ct) ⟨us, []⟩ = pure (ps.zip us))
    (hl : ∀ i, (ins i).length + 1 = ps.length) (hm : ∀ i, (post i).mo.isSome = true ∧ (post i).o1 = none ∧ (post i).o2 = none)
    (body : ∀ (X : Cx) (b : Bs) (i : ι) (v0 : V) (dx : Addr), Cf X N (defScope st) t.mg (fun _ => true) → At X t k → b.R = List.replicate N.length .no →
      PSs X (defBody st) (tS X.K b rl (.res (objR t.P t.w C ⟨[], none, some (v0, dx), none⟩) :: ins i ++ List.replicate (N.length - ps.length) .no) none (.res (objR t.P t.w C { post i with o1 := some (v0, dx) }) :: List.replicate (N.length - 1) .no))) :
    MkAt t x C (k + 1) ps (spNI t.P t.w C ins post) := by
  obtain ⟨f, fd, Fn, M⟩ := D.ex
  have hpl : ps.length ≤ N.length := by have := congrArg List.length S.pre; rw [List.length_take] at this; omega
  refine ⟨⟨f, fd, Fn.ok S (fun vs H Q E ⟨F, i, p, dx, ws, e, _, _, a, _⟩ => ?_) (fun cdv Ar outer s H vs Q E hr h => ?_), M, Fn.binds hb⟩, D.mg⟩
  · rw [e, List.length_cons, a.len]
    exact hl i
  obtain ⟨F, i, p, dx, ws, rfl, hne, e, a, hp, hdx, hFp, hFd, kk⟩ := h
  have hO : ObjI t.P t.w C ⟨[], none, some (.ref p, dx), none⟩ F H (.ref p) (fun l => l = p ∨ l = dx) :=
    ⟨p, dx, [], rfl, hne, hdx, rfl, .nil, Nat.zero_le _, fun q hq => (Option.some.inj hq).symm, hp, fun l => Iff.rfl⟩
  have hA : ∀ l, (l = p ∨ l = dx) → H l ≠ none ∧ F l = none := by
    rintro l (rfl | rfl)
    · exact ⟨(fun z => by rw [hp] at z; cases z), hFp⟩
    · exact ⟨(fun z => by rw [hdx] at z; cases z), hFd⟩
  have h := body (cxOf CX0 t.P t.w t.K t.mg t.base N q (defScope st) f cdv Ar outer s H E).nox ⟨hole (fun l => l = p ∨ l = dx) H, F, List.replicate N.length .no⟩ i (.ref p) dx
    ⟨rfl, rfl, rfl, S.nd, rfl, PassesOwn.never, (by have := hr.un; show (Ar.deeper _).units + 65 < _; omega), fun _ _ => .inl rfl⟩ ⟨rfl, rfl, rfl, rfl, rfl, hr⟩ rfl
  have hs := start_envO (t := t) (N := N) (R := List.replicate N.length .no) (K := t.K) e a hO hA (by have := hl i; omega)
  rw [hl i] at hs
  refine ⟨_, h, F, hs, fun σ' F' H' e' ok' => ?_⟩
  obtain ⟨fp, oa⟩ := ok'.get
  obtain ⟨o, ho, v', rfl, hP⟩ := oa.sl 0 _ rfl
  have hP' := hP
  obtain ⟨a1, dx1, vs1, rfl, z2, z3, z4, z5, z6, z7, z8⟩ := hP
  have e1 := z7 _ rfl
  cases e1
  have hin : ∀ l, (l = p ∨ l = dx) → fp 0 l := by
    obtain ⟨m2, hm2⟩ := Option.isSome_iff_exists.mp (hm i).1
    have z8 : (match (post i).mo with | none => H' p = some (.ins C dx vs1) ∧ ∀ l, fp 0 l ↔ (l = p ∨ l = dx) | some m => ∃ d', (∀ q, (post i).o2 = some q → q = .ref d') ∧ H' p = some (.ins C dx (vs1 ++ [(("known" : Str), V.ref d')])) ∧ MemI t.P t.w m.1 m.2 [] F' H' (.ref d') (fun l => l = d') ∧ (∀ l, fp 0 l ↔ (l = p ∨ l = dx ∨ l = d')) ∧ d' ≠ p ∧ d' ≠ dx) := z8
    rw [hm2] at z8
    obtain ⟨d1, y0, y1, y2, y3, y4, y5⟩ := z8
    rintro l (rfl | rfl)
    · exact (y3 _).mpr (.inl rfl)
    · exact (y3 _).mpr (.inr (.inl rfl))
  have hpost : ({ post i with o1 := none, o2 := none } : Os) = post i := by
    obtain ⟨_, h1, h2⟩ := hm i
    revert h1 h2
    cases post i with
    | mk fs mo o1 o2 => intro h1 h2; cases h1; cases h2; rfl
  have hQ := (ObjI.unpin (o1 := some (.ref p, dx)) (o2 := (post i).o2) hP' : ObjI t.P t.w C { post i with o1 := none, o2 := none } F' H' (.ref p) (fp 0))
  rw [hpost] at hQ
  refine kk F' H' (fp 0) oa.fr.f oa.fr.h (fun l o h1 h2 q => oa.fr.b l o (by show hole (fun l => l = p ∨ l = dx) H l = some o; rw [hole_out (fun z => z.elim h1 h2)]; exact q)) (fun l hl => ?_) (fun l hl => ?_) hQ
  · by_cases z : l = p ∨ l = dx
    · rw [(oa.ow _ l (hin l z)).2.1, (hA l z).2]
    · exact oa.fr.n l (by show hole (fun l => l = p ∨ l = dx) H l ≠ none; rw [hole_out z]; exact hl)
  · obtain ⟨w1, w2, w3⟩ := oa.ow 0 l hl
    refine ⟨w1, w2, ?_⟩
    by_cases z : l = p ∨ l = dx
    · exact z.imp_right .inl
    · have w3 : hole (fun l => l = p ∨ l = dx) H l = none := w3
      rw [hole_out z] at w3
      exact .inr (.inr w3)
theorem meth_defO (D : DefM t C m q st) (S : FnScope N ps (defScope st))
    (hb : ∀ (kV doc pm : Value) (an : Option Addr) (cdv ct : Value) (us : List Value), us.length = ps.length → bindArgs (PySem.W.fnOf m q (defArgs st) (defBody st) (defScope st) .none kV doc pm an cdv ct) ⟨us, []⟩ = pure (ps.zip us))
    (hl : ∀ i, (ins i).length + 1 = ps.length) (hm : ∀ i, (pre i).mo.isSome = true ∧ (post i).mo.isSome = true)
    (body : ∀ (X : Cx) (b : Bs) (i : ι) (v0 : V) (dx : Addr) (d : V), Cf X N (defScope st) t.mg (fun _ => true) → At X t k → b.R = .res (objR t.P t.w C (pin (post i) v0 dx d)) :: List.replicate (N.length - 1) .no →
      PSs X (defBody st) (tS X.K b rl (.res (objR t.P t.w C (pin (pre i) v0 dx d)) :: ins i ++ List.replicate (N.length - ps.length) .no) (some (out i)) [])) :
    MethAt t C m (k + 1) ps (spO t.P t.w C rl ins pre post out) := by
  obtain ⟨f, fd, F, hmt⟩ := D.ex
  exact ⟨f, fd, fn_okO F S hl hm body, hmt, F.binds hb⟩
theorem fn_defO (D : DefAt t x st) (S : FnScope N ps (defScope st))
    (hb : ∀ (kV doc pm : Value) (an : Option Addr) (cdv ct : Value) (us : List Value), us.length = ps.length → bindArgs (PySem.W.fnOf x x (defArgs st) (defBody st) (defScope st) .none kV doc pm an cdv ct) ⟨us, []⟩ = pure (ps.zip us))
    (hl : ∀ i, (ins i).length + 1 = ps.length) (hm : ∀ i, (pre i).mo.isSome = true ∧ (post i).mo.isSome = true)
    (body : ∀ (X : Cx) (b : Bs) (i : ι) (v0 : V) (dx : Addr) (d : V), Cf X N (defScope st) t.mg (fun _ => true) → At X t k → b.R = .res (objR t.P t.w C (pin (post i) v0 dx d)) :: List.replicate (N.length - 1) .no →
      PSs X (defBody st) (tS X.K b rl (.res (objR t.P t.w C (pin (pre i) v0 dx d)) :: ins i ++ List.replicate (N.length - ps.length) .no) (some (out i)) [])) :
    FnAt t x (k + 1) ps (spO t.P t.w C rl ins pre post out) := by
  obtain ⟨f, fd, F, hmt⟩ := D.ex
  exact ⟨f, fd, fn_okO F S hl hm body, hmt, F.kp, F.binds hb⟩
end
section
variable {X : Cx} {t : Tx} {b : Bs} {N ps : List Str} {sc : Scope} {mg : Str → Option Value} {W : Str → Bool} {Γ Γ' Γ1 Γ2 : List En} {k k' rl : Bool} {lv la lb lc : Lv} {pos pos' pp apos p1 dpos : Pos} {e e1 e2 o : Expr} {es : List Expr} {n j m : Nat} {x y f : Str} {C : Addr}
variable {α β γ : Type} [ia : Py α] [ib : Py β] [ic : Py γ] {p : α} {q : β} {ι : Type} {ins : ι → List En} {pre post : ι → Os} {out : ι → PyData}
/-- C(e, ..) -/
theorem xo_make {ds : List (Lv × PyData)} (c : Cf X N sc mg W) (a : At X t n) (G : MkAt t x C m ps (spNI t.P t.w C ins post)) (hk : Nat.ble (m + 1) n = true) (hg : sc.names.lookup x = some .globalImplicit) (i : ι)
    (ha : XA X b (e :: es) Γ ds) (fit : Fit ds (ins i)) (hdb : (x == ("__debug__" : Str)) = false := by decide) (he : starEach (e :: es) X.env = (false, eval e X.env) :: starEach es X.env := by rfl) (hpl : (backTo pos (starEach es X.env)).any (·.1) = false := by rfl) :
    XN X b (.Call (.Name x pp) (e :: es) [] pos) Γ (objR t.P t.w C (post i)) := by
  obtain ⟨f, fd, Fn, M, hb⟩ := G.ex
  refine PE.wk (pe_make (f := f) (C := C) (by rw [a.hK]; exact M) (fn_at a Fn) (a.hr.mono (Nat.le_of_ble_eq_true hk)) (show X.env.scope.names.lookup x = _ by rw [c.hs]; exact hg) (by rw [a.hm]; exact G.mg) (by rw [a.hK]; exact hb) .nil pass0 ha hdb he hpl) ?_
  rintro σ H Q ⟨F, ok, kq⟩
  refine ⟨F, ok, fun vs F1 H1 g1 d1 y dx hy hdx hne => ?_⟩
  have fz := (ok.gr g1).fr
  have hFy : F1 y = none := fz.h.no hy
  have hFd : F1 dx = none := fz.h.no hdx
  let H2 := upd (upd H1 dx (.own y)) y (.ins C dx [])
  have k2 : ∀ l o, H1 l = some o → H2 l = some o := fun l o q => by
    show upd (upd H1 dx (.own y)) y _ l = _
    rw [upd_ne (fun z => by rw [z, hy] at q; cases q), upd_ne (fun z => by rw [z, hdx] at q; cases q)]
    exact q
  refine ⟨F1, i, y, dx, vs, by rw [List.append_nil], Ne.symm hne, fun l o q => k2 l o (fz.h l o q), fit.ok d1, upd_same, by rw [upd_ne hne]; exact upd_same, hFy, hFd, fun F' H' A h1 h2 h3 h4 h5 hI => ⟨rfl, ?_⟩⟩
  refine kq (.ref y) A F' H' (g1.tr ⟨h1, h2, fun l o q => ?_, fun l hl => ?_⟩) (fun l hl => ?_) hI
  · exact h3 l o (fun z => by rw [z, hy] at q; cases q) (fun z => by rw [z, hdx] at q; cases q) (k2 l o q)
  · refine h4 l ?_
    obtain ⟨o, ho⟩ := Option.ne_none_iff_exists'.mp hl
    have z := k2 l o ho
    exact fun w => by have z' := w.symm.trans z; cases z'
  · obtain ⟨w1, w2, w3⟩ := h5 l hl
    refine ⟨?_, w1, w2⟩
    have n1 : H1 l = none := by
      rcases w3 with rfl | rfl | w3
      · exact hy
      · exact hdx
      · cases z : H1 l with
        | none => rfl
        | some o => have w4 := w3.symm.trans (k2 l o z); cases w4
    cases z : H l with
    | none => rfl
    | some o => rw [g1.b l o z] at n1; cases n1
/-- f(o, e, ..), o an object -/
theorem xc_fn {ds : List (Lv × PyData)} (c : Cf X N sc mg W) (a : At X t n) (G : FnAt t x m ps (spO t.P t.w C rl ins pre post out)) (hj : Nat.ble m n = true) (hg : sc.names.lookup x = some .globalImplicit) (hN : N[j]? = some y) (hv : Vis sc y) {os : Os} (i : ι) (hΓ : Γ[j]? = some (.res (objR t.P t.w C os))) (hpre : ∀ v dx d, pin os v dx d = pin (pre i) v dx d) (hmo : os.mo.isSome = true ∧ (post i).mo.isSome = true)
    (ha : XA X b es Γ ds) (fit : Fit ds (ins i)) (hp : out i = Py.enc p := by rfl) (hdb : (x == ("__debug__" : Str)) = false := by decide) (hd : (y == ("__debug__" : Str)) = false := by decide) (hcd : (y == ("__classdict__" : Str)) = false := by decide)
    (he : starEach (.Name y p1 :: es) X.env = (false, eval (.Name y p1) X.env) :: starEach es X.env := by rfl) (hpl : (backTo pos (starEach es X.env)).any (·.1) = false := by rfl) :
    XC X b (.Call (.Name x pp) (.Name y p1 :: es) [] pos) Γ rl p (Γ.set j (.res (objR t.P t.w C { post i with o1 := os.o1, o2 := os.o2 }))) := by
  obtain ⟨f, fd, G, hm, hk, hb⟩ := G.ex
  refine PE.wk (pe_call (fn_at a G) (a.hr.mono (Nat.le_of_ble_eq_true hj)) (show X.env.scope.names.lookup x = _ by rw [c.hs]; exact hg) (by rw [a.hm]; exact hm) (by rw [a.hK]; exact hk) (by rw [a.hK]; exact hb) .nil pass0 (pa_cons (pe_var (i := j) (by rw [c.hN]; exact hN) (by rw [c.hs]; exact hv) hd hcd) ha he) hdb he hpl) ?_
  rintro σ H Q ⟨F, ok, kk⟩
  obtain ⟨fp, oa⟩ := ok.get
  obtain ⟨o, ho, v', rfl, hI⟩ := oa.sl j _ hΓ
  refine ⟨_, ho, F, ok, fun ws F1 H1 g1 d1 => ?_⟩
  show spO t.P t.w C rl ins pre post out (v' :: (ws ++ [])) H1 Q _
  rw [List.append_nil]
  exact (ok.gr g1).callO hΓ hpre hmo ho (fit.ok d1) hp fun u F' H' g ok' d => kk u F' H' (g1.f.tr g) ok' d
end
end Zk

namespace Zk
open PySem PySem.Spec PyProof.Rows L2

/-! ### tests that change the environment -/
def tTC (K : PySem.W.Frag) (b : Bs) (Γ : List En) (c : Bool) (Γ' : List En) : TT := fun σ H Q => ∃ F, EnvOk K b F H σ Γ ∧ ∀ F' H', Ex F F' → EnvOk K b F' H' σ Γ' → Q c H'
abbrev XTC (X : Cx) (b : Bs) (e : Expr) (Γ : List En) (c : Bool) (Γ' : List En) : Prop := PT X e (tTC X.K b Γ c Γ')
abbrev XWC (X : Cx) (b : Bs) (e : Expr) (Γ : List En) (c : Bool) (Γ' : List En) : Prop := PW X e (tTC X.K b Γ c Γ')
theorem Sub.foE {t : Tx} {C : Addr} {s po : Fo} {o1 : Option (V × Addr)} {o2 : Option V} {Γ Γ' : List En} (h : s = po) (r : Sub Γ Γ') : Sub (.res (objR t.P t.w C (foQ s o1 o2)) :: Γ) (.res (objR t.P t.w C (foQ po o1 o2)) :: Γ') := by
  cases h
  exact .keep r
section
variable {X : Cx} {b : Bs} {N : List Str} {sc : Scope} {mg : Str → Option Value} {W : Str → Bool} {Γ Γ' Γ1 Γ2 : List En} {k k' rl : Bool} {la lb lc : Lv} {pos pp py : Pos} {e e1 e2 t : Expr} {body rest els : List Stmt} {es : List Expr}
variable {α β : Type} [ia : Py α] [ib : Py β] {p : α} {q r r1 r2 : β} {o o1 o2 : Option β} {c c1 c2 : Bool}
theorem xtc_xt (h : XT X b e Γ c) : XTC X b e Γ c Γ := PT.wk h fun σ H Q ⟨F, ok, kk⟩ => ⟨F, ok, fun F' H' g => kk F' H' g.f (ok.gr g)⟩
theorem xc_xe (h : XE X b e Γ (.st k) p) : XC X b e Γ k p Γ := PE.wk h fun σ H Q ⟨F, ok, kk⟩ => ⟨F, ok, fun v F' H' g d => kk v F' H' g.f (ok.gr g) d⟩
theorem xc_sc [Scal α] (h : XC X b e Γ k p Γ') : XC X b e Γ k' p Γ' := PE.wk h fun σ H Q ⟨F, ok, kk⟩ => ⟨F, ok, fun v F' H' g ok' d => kk v F' H' g ok' (Scal.any _ _ _ _ d)⟩
theorem xc_old (h : XC X b e Γ true p Γ') : XC X b e Γ false p Γ' := PE.wk h fun σ H Q ⟨F, ok, kk⟩ => ⟨F, ok, fun v F' H' g ok' d => kk v F' H' g ok' (dq_mo (sel2_le true) _ _ d)⟩
theorem xtc_val (h : XC X b e Γ k c Γ') (he : ∀ whole, isTrue e X.env whole = (do let v ← whole; standAt e.pos; holding [v] (truthy v))) : XTC X b e Γ c Γ' :=
  PT.wk (pt_val h he) fun σ H Q ⟨F, ok, kk⟩ => ⟨F, ok, fun v F1 H1 g1 ok1 d1 => ⟨c, dp_bl d1, kk F1 H1 g1 ok1⟩⟩
theorem xc_cmp {op : CmpOp} (cv : CmpV X b op (.st k) (.st k') (Py.enc p) (Py.enc q) c) (h1 : XC X b e1 Γ k p Γ1) (h2 : XC X b e2 Γ1 k' q Γ2) (hm : behindInMarks op e2 = false) : XC X b (.Compare e1 [op] [e2] pos) Γ rl c Γ2 := by
  obtain ⟨r, ho, hr⟩ := cv
  exact PE.wk (pe_cmpR ho h1 h2 hm) fun σ H Q ⟨F, ok, kk⟩ => ⟨F, ok, fun v F1 H1 g1 ok1 d1 => ⟨F1, ok1, fun w F2 H2 g2 ok2 d2 =>
    hr F2 H2 v w _ ok2.fr (dq_mo (sel2_mo g2 k) _ _ d1) d2 (kk _ F2 H2 (g1.tr g2) ok2 (.bl _))⟩⟩
theorem xtc_cmp {op : CmpOp} (cv : CmpV X b op (.st k) (.st k') (Py.enc p) (Py.enc q) c) (h1 : XC X b e1 Γ k p Γ1) (h2 : XC X b e2 Γ1 k' q Γ2) (hm : behindInMarks op e2 = false) : XTC X b (.Compare e1 [op] [e2] pos) Γ c Γ2 := by
  obtain ⟨r, ho, hr⟩ := cv
  exact PT.wk (pt_cmpR ho h1 h2 hm) fun σ H Q ⟨F, ok, kk⟩ => ⟨F, ok, fun v F1 H1 g1 ok1 d1 => ⟨F1, ok1, fun w F2 H2 g2 ok2 d2 =>
    hr F2 H2 v w _ ok2.fr (dq_mo (sel2_mo g2 k) _ _ d1) d2 ⟨c, rfl, kk F2 H2 (g1.tr g2) ok2⟩⟩⟩
theorem xc_notB (h : XC X b e Γ k c Γ') : XC X b (.UnaryOp .Not e pos) Γ rl (!c) Γ' :=
  PE.wk (pe_not h) fun σ H Q ⟨F, ok, kk⟩ => ⟨F, ok, fun v F1 H1 g1 ok1 d1 => ⟨c, dp_bl d1, kk _ F1 H1 g1 ok1 (.bl _)⟩⟩
theorem xtc_not (h : XTC X b e Γ c Γ') : XTC X b (.UnaryOp .Not e pos) Γ (!c) Γ' :=
  PT.wk (pt_not h) fun σ H Q ⟨F, ok, kk⟩ => ⟨F, ok, fun F1 H1 g1 ok1 => kk F1 H1 g1 ok1⟩
theorem xtc_w (h : XWC X b e Γ c Γ') : XTC X b e Γ c Γ' := h.pt
theorem xwc_and1 (h : XTC X b e Γ c Γ') : XWC X b (.BoolOp .And [e] pos) Γ c Γ' := pw_and1 h
theorem xwc_or1 (h : XTC X b e Γ c Γ') : XWC X b (.BoolOp .Or [e] pos) Γ c Γ' := pw_or1 h
theorem xwc_and (h1 : XTC X b e1 Γ c1 Γ1) (h2 : c1 = true → XWC X b (.BoolOp .And (e2 :: es) pos) Γ1 c2 Γ2) (hE : c1 = false → Γ1 = Γ2) : XWC X b (.BoolOp .And (e1 :: e2 :: es) pos) Γ (c1 && c2) Γ2 := by
  cases c1 with
  | true => exact PW.wk (pw_and h1 (h2 rfl)) fun σ H Q ⟨F, ok, kk⟩ => ⟨F, ok, fun F1 H1 g1 ok1 => iteT ⟨F1, ok1, fun F2 H2 g2 ok2 => kk F2 H2 (g1.tr g2) ok2⟩⟩
  | false => exact PW.wk (pw_and (tB' := fun _ _ _ => False) h1 ⟨fun _ _ _ _ _ _ _ z => z.elim⟩) fun σ H Q ⟨F, ok, kk⟩ => ⟨F, ok, fun F1 H1 g1 ok1 => iteF (kk F1 H1 g1 (hE rfl ▸ ok1))⟩
theorem xwc_or (h1 : XTC X b e1 Γ c1 Γ1) (h2 : c1 = false → XWC X b (.BoolOp .Or (e2 :: es) pos) Γ1 c2 Γ2) (hE : c1 = true → Γ1 = Γ2) : XWC X b (.BoolOp .Or (e1 :: e2 :: es) pos) Γ (c1 || c2) Γ2 := by
  cases c1 with
  | false => exact PW.wk (pw_or h1 (h2 rfl)) fun σ H Q ⟨F, ok, kk⟩ => ⟨F, ok, fun F1 H1 g1 ok1 => iteF ⟨F1, ok1, fun F2 H2 g2 ok2 => kk F2 H2 (g1.tr g2) ok2⟩⟩
  | true => exact PW.wk (pw_or (tB' := fun _ _ _ => False) h1 ⟨fun _ _ _ _ _ _ _ z => z.elim⟩) fun σ H Q ⟨F, ok, kk⟩ => ⟨F, ok, fun F1 H1 g1 ok1 => iteT (kk F1 H1 g1 (hE rfl ▸ ok1))⟩
theorem xc_one {op : BoolOp} (h : XC X b e Γ k c Γ') : XC X b (.BoolOp op [e] pos) Γ k c Γ' := pe_one h
theorem xc_andB (h1 : XC X b e1 Γ k c1 Γ1) (h2 : c1 = true → XC X b (.BoolOp .And (e2 :: es) pos) Γ1 k' c2 Γ2) (hE : c1 = false → Γ1 = Γ2) : XC X b (.BoolOp .And (e1 :: e2 :: es) pos) Γ k' (c1 && c2) Γ2 := by
  cases c1 with
  | true => exact PE.wk (pe_and h1 (h2 rfl)) fun σ H Q ⟨F, ok, kk⟩ => ⟨F, ok, fun v F1 H1 g1 ok1 d1 => ⟨true, dp_bl d1, iteT ⟨F1, ok1, fun u F2 H2 g2 ok2 d2 => kk u F2 H2 (g1.tr g2) ok2 d2⟩⟩⟩
  | false => exact PE.wk (pe_and (tb := fun _ _ _ => False) h1 ⟨fun _ _ _ _ _ _ z => z.elim⟩) fun σ H Q ⟨F, ok, kk⟩ => ⟨F, ok, fun v F1 H1 g1 ok1 d1 => ⟨false, dp_bl d1, iteF (kk _ F1 H1 g1 (hE rfl ▸ ok1) (.bl _))⟩⟩
theorem xc_orB (h1 : XC X b e1 Γ k c1 Γ1) (h2 : c1 = false → XC X b (.BoolOp .Or (e2 :: es) pos) Γ1 k' c2 Γ2) (hE : c1 = true → Γ1 = Γ2) : XC X b (.BoolOp .Or (e1 :: e2 :: es) pos) Γ k' (c1 || c2) Γ2 := by
  cases c1 with
  | false => exact PE.wk (pe_or h1 (h2 rfl)) fun σ H Q ⟨F, ok, kk⟩ => ⟨F, ok, fun v F1 H1 g1 ok1 d1 => ⟨false, dp_bl d1, iteF ⟨F1, ok1, fun u F2 H2 g2 ok2 d2 => kk u F2 H2 (g1.tr g2) ok2 d2⟩⟩⟩
  | true => exact PE.wk (pe_or (tb := fun _ _ _ => False) h1 ⟨fun _ _ _ _ _ _ z => z.elim⟩) fun σ H Q ⟨F, ok, kk⟩ => ⟨F, ok, fun v F1 H1 g1 ok1 d1 => ⟨true, dp_bl d1, iteT (kk _ F1 H1 g1 (hE rfl ▸ ok1) (.bl _))⟩⟩
theorem xb_ifrC {Γ0 : List En} (ht : XTC X b t Γ0 c Γ) (h1 : c = true → XB X b rl body Γ (some r1) Γ1) (h2 : c = false → XB X b rl rest Γ (some r2) Γ2) : XB X b rl (.If t body [] pos :: rest) Γ0 (some (cond c r1 r2)) Γ2 := by
  cases c with
  | true => exact PSs.wk (pss_cons (ps_if ht (h1 rfl) (pss_never)) pss_never) fun D σ H ⟨F, ok, kk⟩ => ⟨F, ok, fun F' H' g ok1 => iteT ⟨F', ok1, tS_some (Γ' := Γ1) kk rfl g⟩⟩
  | false => exact PSs.wk (pss_cons (ps_if ht (u := tNext) pss_never pss_nil) (h2 rfl)) fun D σ H ⟨F, ok, kk⟩ => ⟨F, ok, fun F' H' g ok1 => iteF ⟨F', ok1, tS_end kk g⟩⟩
theorem xb_ifoC {Γ0 : List En} (ht : XTC X b t Γ0 c Γ) (h1 : c = true → XB X b rl body Γ (some r1) Γ1) (h2 : c = false → XB X b rl rest Γ o Γ2) : XB X b rl (.If t body [] pos :: rest) Γ0 (cond c (some r1) o) Γ2 := by
  cases c with
  | true => exact PSs.wk (pss_cons (ps_if ht (h1 rfl) (pss_never)) pss_never) fun D σ H ⟨F, ok, kk⟩ => ⟨F, ok, fun F' H' g ok1 => iteT ⟨F', ok1, tS_some (Γ' := Γ1) kk rfl g⟩⟩
  | false => exact PSs.wk (pss_cons (ps_if ht (u := tNext) pss_never pss_nil) (h2 rfl)) fun D σ H ⟨F, ok, kk⟩ => ⟨F, ok, fun F' H' g ok1 => iteF ⟨F', ok1, tS_end kk g⟩⟩
theorem xs_ifEC {Γ0 : List En} {Γ' : Bool → List En} (ht : XTC X b t Γ0 c Γ) (h1 : c = true → XB X b rl body Γ (none : Option β) (Γ' true)) (h2 : c = false → XB X b rl els Γ (none : Option β) (Γ' false)) : XS X b rl (.If t body els pos) Γ0 (none : Option β) (Γ' c) := by
  cases c with
  | true => exact PS.wk (ps_if ht (h1 rfl) pss_never) fun D σ H ⟨F, ok, kk⟩ => ⟨F, ok, fun F' H' g ok1 => iteT ⟨F', ok1, tS_end kk g⟩⟩
  | false => exact PS.wk (ps_if ht pss_never (h2 rfl)) fun D σ H ⟨F, ok, kk⟩ => ⟨F, ok, fun F' H' g ok1 => iteF ⟨F', ok1, tS_end kk g⟩⟩
theorem xb_retC {Γr : List En} {r : β} (hR : b.R = Γr) (s : Wk Γ' Γr) (h : XC X b e Γ rl r Γ') : XB X b rl (.Return (some e) pos :: rest) Γ (some r) Γ1 :=
  PSs.wk (pss_cons (ps_ret h) pss_never) fun D σ H ⟨F, ok, kk⟩ => ⟨F, ok, fun v F' H' g ok1 d => kk v σ F' H' g (hR ▸ s _ _ _ _ _ ok1) d⟩
end
end Zk

namespace Zk
open PySem PySem.Spec PyProof.Rows L2
def fo0 (f : Int × List (List Int)) : Fo := ⟨f.1, f.2.map (fun one_ => one_), 0, f.2.map (fun one_ => one_)⟩
theorem fo0_eq (f : Int × List (List Int)) : fo0 f = ⟨f.1, f.2, 0, f.2⟩ := by
  unfold fo0
  rw [List.map_id']
def guessM (s : Fo) (p : Int) : Bool := decide (mM s.pts (halfM s.sets p true) > mM s.pts (halfM s.sets p false))
def tellM (s : Fo) (p : Int) (b : Bool) : Fo := ⟨s.pts, halfM s.sets p b, s.wrong + cond (guessM s p == b) 0 1, s.base⟩
structure FoOk (s : Fo) : Prop where
  p1 : 1 ≤ s.pts
  p8 : s.pts ≤ 8
  v : Val s.pts s.base
  l : s.base.length ≤ 16
  sub : s.sets.Sublist s.base
  ne : s.sets ≠ []
variable {s : Fo} {p : Int} {b : Bool}
theorem FoOk.vs (h : FoOk s) : Val s.pts s.sets := ⟨h.sub.nodup h.v.nd, fun f hf => h.v.ris f (h.sub.subset hf)⟩
theorem fo0_ok {P M : Int} {F : Int × List (List Int)} (h : Fam P M F) (hP : P ≤ 8) (hM : M ≤ 16) : FoOk (fo0 F) := by
  rw [fo0_eq]
  have h1 := h.n1
  have h2 := h.n2
  have h3 := h.len
  exact ⟨h1, (by show F.1 ≤ 8; omega), ⟨h.nd, h.ris⟩, (by show F.2.length ≤ 16; omega), List.Sublist.refl _, h.ne⟩
theorem tell_ok (h : FoOk s) (hn : halfM s.sets p b ≠ []) : FoOk (tellM s p b) := ⟨h.p1, h.p8, h.v, h.l, (half_sub _ _ _).trans h.sub, hn⟩
theorem FoOk.lo (h : FoOk s) : 0 ≤ mM s.pts s.sets := m_lo _ _ (Nat.le_refl _) h.vs (List.length_pos_iff.mpr h.ne)
theorem m_nil {n : Int} : mM n [] = -1 := by rw [m_small (by decide)]; rfl
theorem half_le {n : Int} {S : List (List Int)} (h : Val n S) (hn : halfM S p b ≠ []) : mM n (halfM S p b) ≤ mM n S :=
  m_mono _ _ _ (Nat.le_refl _) (h.half p b) h (fun f hf => (half_mem.mp hf).1) (List.length_pos_iff.mpr hn)
theorem half_lo {n : Int} {S : List (List Int)} (h : Val n S) (hn : halfM S p b ≠ []) : 0 ≤ mM n (halfM S p b) := m_lo _ _ (Nat.le_refl _) (h.half p b) (List.length_pos_iff.mpr hn)
theorem both_le {n : Int} {S : List (List Int)} (h : Val n S) (hp : 0 ≤ p ∧ p < n) (h1 : halfM S p true ≠ []) (h2 : halfM S p false ≠ []) : 1 + min (mM n (halfM S p false)) (mM n (halfM S p true)) ≤ mM n S := by
  have a := List.length_pos_iff.mpr h1
  have c := List.length_pos_iff.mpr h2
  have d := half_sum S p
  have e := mM_ge (n := n) (S := S) (p := p) (part_mem.mpr ⟨hp, by omega, by omega⟩)
  unfold mVal at e
  omega
/-- the greater half is foretold: a mistake costs one -/
theorem tell_le (h : FoOk s) (hp : 0 ≤ p ∧ p < s.pts) (hn : halfM s.sets p b ≠ []) : (tellM s p b).wrong + mM s.pts (tellM s p b).sets ≤ s.wrong + mM s.pts s.sets := by
  show s.wrong + cond (guessM s p == b) 0 1 + mM s.pts (halfM s.sets p b) ≤ _
  have hv := h.vs
  have l1 := half_le hv hn
  have l2 := half_lo hv hn
  cases hg : (guessM s p == b) with
  | true => show s.wrong + 0 + _ ≤ _; omega
  | false =>
    show s.wrong + 1 + _ ≤ _
    have hg : guessM s p ≠ b := by simpa using hg
    cases b with
    | true =>
      have hg : ¬ mM s.pts (halfM s.sets p true) > mM s.pts (halfM s.sets p false) := by
        unfold guessM at hg
        simpa using hg
      have hf : halfM s.sets p false ≠ [] := fun z => by rw [z, m_nil] at hg; omega
      have := both_le hv hp hn hf
      omega
    | false =>
      have hg : mM s.pts (halfM s.sets p true) > mM s.pts (halfM s.sets p false) := by
        unfold guessM at hg
        simpa using hg
      have hf : halfM s.sets p true ≠ [] := fun z => by rw [z, m_nil] at hg; omega
      have := both_le hv hp hf hn
      omega
theorem tell_against (h : guessM s p ≠ b) : (tellM s p b).wrong = s.wrong + 1 := by
  show s.wrong + cond (guessM s p == b) 0 1 = _
  rw [beq_eq_false_iff_ne.mpr h]
  rfl
/-- what stays true of one told by turns -/
structure FoIn (F : Int × List (List Int)) (s : Fo) : Prop extends FoOk s where
  hp : s.pts = F.1
  hb : s.base = F.2
  w0 : 0 ≤ s.wrong
  hw : s.wrong + mM s.pts s.sets ≤ mM F.1 F.2
theorem fo0_in {P M : Int} {F : Int × List (List Int)} (h : Fam P M F) (hP : P ≤ 8) (hM : M ≤ 16) : FoIn F (fo0 F) := by
  refine ⟨fo0_ok h hP hM, ?_, ?_, ?_, ?_⟩ <;> rw [fo0_eq]
  · exact Int.le_refl 0
  · show 0 + mM F.1 F.2 ≤ mM F.1 F.2
    omega
theorem tell_in {F : Int × List (List Int)} (h : FoIn F s) (hp : 0 ≤ p ∧ p < F.1) (hn : halfM s.sets p b ≠ []) : FoIn F (tellM s p b) := by
  refine ⟨tell_ok h.toFoOk hn, h.hp, h.hb, ?_, Int.le_trans (tell_le h.toFoOk (by rw [h.hp]; exact hp) hn) h.hw⟩
  show 0 ≤ s.wrong + cond (guessM s p == b) 0 1
  have := h.w0
  cases (guessM s p == b)
  · show 0 ≤ s.wrong + 1; omega
  · show 0 ≤ s.wrong + 0; omega
theorem FoIn.wle {F : Int × List (List Int)} (h : FoIn F s) : s.wrong ≤ mM F.1 F.2 := by
  have := h.hw
  have := h.toFoOk.lo
  omega
/-- each way down such a tree some set goes -/
theorem forces_ne {F : Int × List (List Int)} : ∀ {t : TR} {S : List (List Int)} {k : Int}, forceR F t S k = true → S ≠ []
  | .lf s (some _), S, k, h => by cases h
  | .lf s none, S, k, h => by
    unfold forceR at h
    simp only [Bool.and_eq_true, Bool.not_eq_true', decide_eq_false_iff_not] at h
    exact h.2.1
  | .nd p l r, S, k, h => by
    unfold forceR at h
    simp only [Bool.and_eq_true] at h
    have := forces_ne h.2.1
    intro z
    rw [z] at this
    exact this rfl
end Zk

namespace Zk
open PySem PySem.Spec PyProof.Rows L2

/-! ### a <= b <= c <= d as a test -/
def tCh3 (r r' r'' : R2) (ta tb tc td : TE) : TT := fun σ H Q => ta σ H fun x H1 => tb σ H1 fun y H2 => r x y H2 fun z H3 => ∃ k, z = .bl k ∧
  (if k = true then tc σ H3 fun w H4 => r' y w H4 fun z' H5 => ∃ k', z' = .bl k' ∧ (if k' = true then td σ H5 fun u H6 => r'' w u H6 fun z2 H7 => ∃ k2, z2 = .bl k2 ∧ Q k2 H7 else Q false H5) else Q false H3)
section
variable {X : Cx} {a b c d : Expr} {ta tb tc td : TE} {pos : Pos}
theorem pt_chain3 {op op' op2 : CmpOp} {r r' r2 : R2} (ho : OpR X (compareOp op) r) (ho' : OpR X (compareOp op') r') (ho2 : OpR X (compareOp op2) r2) (ha : PE X a ta) (hb : PE X b tb) (hc : PE X c tc) (hd : PE X d td)
    (hm : lastMarks [op, op', op2] [b, c, d] = false := by with_unfolding_all rfl) : PT X (.Compare a [op, op', op2] [b, c, d] pos) (tCh3 r r' r2 ta tb tc td) := by
  refine ⟨fun pins s σ H Q I h => ?_⟩
  refine isTrue_chain (thn (ha.run pins s σ H _ I h) fun v s1 ⟨x, H1, I1, r1, q1⟩ => test_link (thn (hb.run pins s1 σ H1 _ I1 q1) fun u s2 ⟨y, H2, I2, q2', q2⟩ =>
    thn (ho pins s2 σ H2 x y v u _ I2 r1 q2' q2) fun d1 s3 ⟨z, H3, I3, r3, k, e, q3⟩ => ?_)) hm
  subst e
  cases r3
  refine wpAny_truthy_bool ?_
  cases k with
  | false => exact ite_ff ⟨H3, I3, q3⟩
  | true =>
    refine ite_tt (test_link (thn (hc.run pins s3 σ H3 _ I3 q3) fun w' s4 ⟨z', H4, I4, r4, q4⟩ => thn (ho' pins s4 σ H4 y z' u w' _ I4 q2' r4 q4) fun d' s5 ⟨z2, H5, I5, r5, k2, e2, q5⟩ => ?_))
    subst e2
    cases r5
    refine wpAny_truthy_bool ?_
    cases k2 with
    | false => exact ite_ff ⟨H5, I5, q5⟩
    | true =>
      refine ite_tt (test_last (thn (hd.run pins s5 σ H5 _ I5 q5) fun w2 s6 ⟨z3, H6, I6, r6, q6⟩ => thn (ho2 pins s6 σ H6 z' z3 w' w2 _ I6 r4 r6 q6) fun d2 s7 ⟨z4, H7, I7, r7, k3, e3, q7⟩ => ?_))
      subst e3
      cases r7
      exact wpAny_truthy_bool ⟨H7, I7, q7⟩
end
section
variable {X : Cx} {b : Bs} {Γ : List En} {la lb lc ld : Lv} {pos : Pos} {e1 e2 e3 e4 : Expr} {α β γ δ : Type} [Py α] [Py β] [Py γ] [Py δ] {p : α} {q : β} {r : γ} {s : δ} {c c' c2 : Bool} {op op' op2 : CmpOp}
theorem xt_chain3 (cv : CmpV X b op la lb (Py.enc p) (Py.enc q) c) (cv' : CmpV X b op' lb lc (Py.enc q) (Py.enc r) c') (cv2 : CmpV X b op2 lc ld (Py.enc r) (Py.enc s) c2) (h1 : XE X b e1 Γ la p) (h2 : XE X b e2 Γ lb q) (h3 : XE X b e3 Γ lc r) (h4 : XE X b e4 Γ ld s) (hm : lastMarks [op, op', op2] [e2, e3, e4] = false) :
    XT X b (.Compare e1 [op, op', op2] [e2, e3, e4] pos) Γ (c && (c' && c2)) := by
  obtain ⟨r, ho, hr⟩ := cv
  obtain ⟨r', ho', hr'⟩ := cv'
  obtain ⟨r2, ho2, hr2⟩ := cv2
  exact PT.wk (pt_chain3 ho ho' ho2 h1 h2 h3 h4 hm) fun σ H Q ⟨F, ok, k⟩ => ⟨F, ok, fun v F1 H1 g1 d1 => ⟨F1, ok.gr g1, fun w F2 H2 g2 d2 =>
    hr F2 H2 v w _ ((ok.gr g1).gr g2).fr (dq_mo (sel_mo g2 _) _ _ d1) d2 ⟨c, rfl, by
      cases c with
      | false => exact iteF (k F2 H2 (g1.tr g2))
      | true => exact iteT ⟨F2, (ok.gr g1).gr g2, fun u F3 H3 g3 d3 => hr' F3 H3 w u _ (((ok.gr g1).gr g2).gr g3).fr (dq_mo (sel_mo g3 _) _ _ d2) d3 ⟨c', rfl, by
          cases c' with
          | false => exact iteF (k F3 H3 ((g1.tr g2).tr g3))
          | true => exact iteT ⟨F3, ((ok.gr g1).gr g2).gr g3, fun u4 F4 H4 g4 d4 => hr2 F4 H4 u u4 _ ((((ok.gr g1).gr g2).gr g3).gr g4).fr (dq_mo (sel_mo g4 _) _ _ d3) d4 ⟨_, rfl, k F4 H4 (((g1.tr g2).tr g3).tr g4)⟩⟩⟩⟩⟩⟩⟩
end
end Zk

namespace Zk
open PySem PySem.Spec PyProof.Rows L2

/-! ### displays of effects -/
def tCA (K : PySem.W.Frag) (b : Bs) (Γ Γ' : List En) (ds : List (Bool × PyData)) : TA := fun σ H Q => ∃ F, EnvOk K b F H σ Γ ∧ ∀ vs F' H', Ex F F' → EnvOk K b F' H' σ Γ' → DqL b F' H' vs (stL ds) → Q vs H'
abbrev XCA (X : Cx) (b : Bs) (es : List Expr) (Γ : List En) (ds : List (Bool × PyData)) (Γ' : List En) : Prop := PA X es (tCA X.K b Γ Γ' ds)
/-- plain data: no truths, no None, so deep at the most -/
def plainN : Nat → PyData → Bool
  | 0, _ => false
  | n + 1, .list xs => xs.all (plainN n)
  | n + 1, .tuple xs => xs.all (plainN n)
  | _ + 1, .int _ => true
  | _ + 1, .str _ => true
  | _ + 1, _ => false
theorem EnvOk.as {K : PySem.W.Frag} {b : Bs} {F H : Hp} {σ : L2.St} {Γ : List En} {α β : Type} {i : Py α} {i' : Py β} {k : Bool} {a : α} {a' : β} (e : EnvOk K b F H σ Γ) {j : Nat} (hj : Γ[j]? = some (.dat α i k a)) (h : i.enc a = i'.enc a') : EnvOk K b F H σ (Γ.set j (.dat β i' k a')) := by
  obtain ⟨fr, len, fp, h1, h2, h3⟩ := e
  refine ⟨fr, by simpa using len, fp, h1, h2, fun m e he => ?_⟩
  by_cases z : j = m
  · subst z
    have hjl : j < Γ.length := (List.getElem?_eq_some_iff.mp hj).1
    rw [List.getElem?_set_self hjl] at he
    cases he
    obtain ⟨o, ho, v, rfl, d⟩ := h3 j _ hj
    refine ⟨_, ho, v, rfl, ?_⟩
    show Dq _ v (i'.enc a')
    rw [← h]
    exact d
  · rw [List.getElem?_set_ne z] at he
    exact h3 m e he
section
variable {X : Cx} {b : Bs} {N : List Str} {sc : Scope} {mg : Str → Option Value} {W : Str → Bool} {Γ Γ' Γ1 Γ2 : List En} {k k' rl : Bool} {la lb lc : Lv} {pos pp py pos' xpos : Pos} {e e1 e2 t : Expr} {body rest els : List Stmt} {es : List Expr}
variable {α β : Type} [ia : Py α] [ib : Py β] {p : α} {q r r1 r2 : β} {o o1 o2 : Option β} {c c1 c2 : Bool}
theorem xb_as {α' : Type} {i : Py α} {i' : Py α'} {a : α} {a' : α'} {j : Nat} (hj : Γ[j]? = some (.dat α i k a)) (h : i.enc a = i'.enc a') (hb : XB X b rl body (Γ.set j (.dat α' i' k a')) o Γ1) : XB X b rl body Γ o Γ1 := PSs.wk hb fun D σ H ⟨F, ok, kk⟩ => ⟨F, ok.as hj h, kk⟩
theorem xca_nil : XCA X b [] Γ [] Γ := PA.wk pa_nil fun σ H Q ⟨F, ok, kk⟩ => kk _ F H (Ex.rf F) ok .nil
theorem xca_cons {ds : List (Bool × PyData)} (h : XC X b e Γ k p Γ1) (hr : XCA X b es Γ1 ds Γ2) (hs : starEach (e :: es) X.env = (false, eval e X.env) :: starEach es X.env := by rfl) : XCA X b (e :: es) Γ ((k, Py.enc p) :: ds) Γ2 :=
  PA.wk (pa_cons h hr hs) fun σ H Q ⟨F, ok, kk⟩ => ⟨F, ok, fun v F1 H1 g1 ok1 d1 => ⟨F1, ok1, fun vs F2 H2 g2 ok2 d2 => kk _ F2 H2 (g1.tr g2) ok2 (.cons (dq_mo (sel2_mo g2 k) _ _ d1) d2)⟩⟩
theorem dql_stm {b : Bs} {F H : Hp} {vs : List V} {ds : List PyData} (h : DqL b F H vs (stL (ds.map fun d => (k, d)))) : DqAll (sel2 b.B F k) vs ds := by
  refine dql_all (lv := .st k) (H := H) ?_
  have e : stL (ds.map fun d => (k, d)) = ds.map fun d => (Lv.st k, d) := by
    unfold stL
    rw [List.map_map]
    rfl
  rw [← e]
  exact h
theorem xc_lst {xs : List α} (h : XCA X b es Γ ((xs.map Py.enc).map fun d => (k, d)) Γ') (hz : Nat.ble xs.length 1000 = true := by rfl) : XC X b (.List es pos) Γ k xs Γ' :=
  PE.wk (pe_lst h) fun σ H Q ⟨F, ok, kk⟩ => ⟨F, ok, fun vs F1 H1 g1 ok1 d1 => by
    have d2 := dql_stm d1
    have hz' : vs.length ≤ sizeLine := by rw [dqa_len d2, List.length_map]; exact line_of hz
    exact ⟨hz', fun p hp => new_lst (lv := .st k) ok1.fr d2 hz' hp fun v F' H' g d => kk v F' H' (g1.tr g.f) (ok1.gr g) d⟩⟩
theorem xc_cat {xs ys : List α} (h1 : XC X b e1 Γ k xs Γ1) (h2 : XC X b e2 Γ1 k ys Γ2) (hz : xs.length + ys.length ≤ 1000000) : XC X b (.BinOp e1 .Add e2 pos) Γ k (xs ++ ys) Γ2 :=
  PE.wk (pe_op op_catS h1 h2) fun σ H Q ⟨F, ok, kk⟩ => ⟨F, ok, fun v F1 H1 g1 ok1 d1 => ⟨F1, ok1, fun w F2 H2 g2 ok2 d2 => by
    have d1 := dq_mo (sel2_mo g2 k) _ _ d1
    obtain ⟨a, vs, rfl, hq, hzz, hall⟩ := dp_lst d1
    obtain ⟨a2, vs2, rfl, hq2, hzz2, hall2⟩ := dp_lst d2
    have l1 : vs.length = xs.length := by rw [dqa_len hall, List.length_map]
    have l2 : vs2.length = ys.length := by rw [dqa_len hall2, List.length_map]
    have fz := ok2.fr
    refine ⟨a, a2, vs, vs2, rfl, rfl, (Ex.tr (sel2_le k) fz.h).rd hq, (Ex.tr (sel2_le k) fz.h).rd hq2, Nat.le_trans (by omega) (show 1000000 ≤ sizeLine by decide), fun p hp => ?_⟩
    refine new_lst (lv := .st k) (ds := (xs ++ ys).map Py.enc) fz ?_ (by rw [List.length_append]; exact Nat.le_trans (by omega) (show 1000000 ≤ sizeLine by decide)) hp fun v F' H' g d => kk v F' H' ((g1.tr g2).tr g.f) (ok2.gr g) d
    rw [List.map_append]
    exact dqa_app hall hall2⟩⟩
/-- x = a + b, x an own list -/
theorem xs_newCat {x : Str} {j : Nat} {xs ys : List α} (cf : Cf X N sc mg W) (hN : N[j]? = some x) (hx : L2.Loc sc x) (hW : W x = true) (h1 : XC X b e1 Γ k xs Γ1) (h2 : XC X b e2 Γ1 k ys Γ2) (hz : xs.length + ys.length ≤ 1000000)
    (hs : swapsWithSole [.Name x pos'] (.BinOp e1 .Add e2 pp) pos.line X.env = pure false := by rfl) (hw : swappedStores [.Name x pos'] (.BinOp e1 .Add e2 pp) X.env = pure none := by rfl) : XS X b rl (.Assign [.Name x pos'] (.BinOp e1 .Add e2 pp) pos) Γ (none : Option β) (Γ2.set j (.res (ownR α k (xs ++ ys)))) := by
  have hx' : L2.Loc X.env.scope x := by rw [cf.hs]; exact hx
  refine PS.wk (ps_asg (pe_op op_catS h1 h2) (pg_name (i := j) (by rw [cf.hN]; exact cf.nd) (by rw [cf.hN]; exact hN) hx' (cf.fn x hW)) hs hw) fun D σ H ⟨F, ok, kk⟩ => ?_
  refine ⟨F, ok, fun v F1 H1 g1 ok1 d1 => ⟨F1, ok1, fun w F2 H2 g2 ok2 d2 => ?_⟩⟩
  have d1 := dq_mo (sel2_mo g2 k) _ _ d1
  obtain ⟨a, vs, rfl, hq, hzz, hall⟩ := dp_lst d1
  obtain ⟨a2, vs2, rfl, hq2, hzz2, hall2⟩ := dp_lst d2
  have l1 : vs.length = xs.length := by rw [dqa_len hall, List.length_map]
  have l2 : vs2.length = ys.length := by rw [dqa_len hall2, List.length_map]
  have fz := ok2.fr
  have hz' : (vs ++ vs2).length ≤ sizeLine := by rw [List.length_append]; exact Nat.le_trans (by omega) (show 1000000 ≤ sizeLine by decide)
  refine ⟨a, a2, vs, vs2, rfl, rfl, (Ex.tr (sel2_le k) fz.h).rd hq, (Ex.tr (sel2_le k) fz.h).rd hq2, Nat.le_trans (by omega) (show 1000000 ≤ sizeLine by decide), fun l hl => kk _ F2 (upd H2 l (.lst (vs ++ vs2))) (g1.tr g2) ?_⟩
  have hF : F2 l = none := fz.h.no hl
  refine ok2.newR (F' := F2) (H' := upd H2 l (.lst (vs ++ vs2))) (r := ownR α k (xs ++ ys)) (A := fun m => m = l) ⟨Ex.rf F2, fz.h.tr (Ex.nw hl), Ex.nw hl, fun _ _ => rfl⟩ (fun m hm => ?_) ⟨l, vs ++ vs2, rfl, fun m => Iff.rfl, upd_same, hz', by rw [List.map_append]; exact dqa_app hall hall2⟩ j
  have hm' : m = l := hm
  subst hm'
  exact ⟨hl, by rw [upd_same]; simp, hF⟩
theorem xe_dyn {lv : Lv} (h : XE X b e Γ lv p) : XE X b e Γ lv (Py.enc p : PyData) := h
theorem xc_dyn (h : XC X b e Γ k p Γ') : XC X b e Γ k (Py.enc p : PyData) Γ' := h
theorem xc_scD [Scal α] (h : XC X b e Γ k p Γ') : XC X b e Γ k' (Py.enc p : PyData) Γ' := xc_dyn (xc_sc h)
theorem cv_isN {n : Int} : CmpV X b .Is la lb (Py.enc n) (Py.enc ()) false := ⟨_, op_isN, fun F H v w Q fz d1 d2 kk => ⟨by cases d2; rfl, by cases d1; exact kk⟩⟩
theorem cv_isNl {xs : List α} : CmpV X b .Is la lb (Py.enc xs) (Py.enc ()) false := ⟨_, op_isN, fun F H v w Q fz d1 d2 kk => by
  obtain ⟨a, vs, rfl, _⟩ := dp_lst d1
  exact ⟨dp_non d2, kk⟩⟩
theorem cv_isNt {xs : List α} : CmpV X b .Is la lb (Py.enc (VT.mk xs)) (Py.enc ()) false := ⟨_, op_isN, fun F H v w Q fz d1 d2 kk => by
  obtain ⟨a, vs, rfl, _⟩ := dp_tup d1
  exact ⟨dp_non d2, kk⟩⟩
theorem cv_isNs {n : Str} : CmpV X b .Is la lb (Py.enc n) (Py.enc ()) false := ⟨_, op_isN, fun F H v w Q fz d1 d2 kk => ⟨by cases d2; rfl, by cases d1; exact kk⟩⟩
end
end Zk

namespace Zk
open PySem PySem.Spec PySem.Calls PyProof.Rows PySem.W PySem.SeqAt

/-! ### sorted(tuples), the first of them () -/
section
variable {prog : Program} {w : World} {A : Around} {s : Shared} {E : Value → Shared → Prop}
theorem call_tuple_lt {Q : Value → Shared → Prop} {l b : Addr} {items items2 : Array Value} {e r : Nat → Bool} (hl : s.heap.IsTuple l items) (hb : s.heap.IsTuple b items2)
    (he : ∀ j (h1 : j < items.size) (h2 : j < items2.size), EqAt A.in1 s items[j] items2[j] (e j)) (hr : ∀ j (h1 : j < items.size) (h2 : j < items2.size), e j = false → RcLt A.in1 s items[j] items2[j] (r j))
    (h : Q (.bool (firstLt e r (decide (items.size < items2.size)) (List.range (min items.size items2.size)))) s) : wpAny (model prog w) A (call (.builtin "tuple.__lt__") [.ref l, .ref b]) Q E s := by
  obtain ⟨⟨cls, dd, data, sl⟩, ho, hc, n, hd⟩ := id hl
  obtain ⟨⟨cls2, dd2, data2, sl2⟩, ho2, hc2, n2, hd2⟩ := id hb
  simp only at hc hd hc2 hd2
  subst hc hd hc2 hd2
  exact call_meets F.slot_tuple_lt ⟨_, ho, rfl⟩ F.entry_tuple_lt (F.args_tuple_lt_2 _ _) (tuple_ltAt l b items items2 n n2 dd dd2 sl sl2 e r) ⟨ho, ho2, he, hr, h⟩
theorem oneLt_tup {xs ys : List PyData} {a b : Value} {as bs : List Addr} {Q : Bool → Shared → Prop} (ra : Reads s.heap a (.tuple xs) as) (rb : Reads s.heap b (.tuple ys) bs) (h : alike (.tuple xs) (.tuple ys) = true)
    (hu : A.units + min (PyData.tuple xs).depth (PyData.tuple ys).depth < cLine) (hq : Q (dataLt (.tuple xs) (.tuple ys)) s) : wpAny (model prog w) A (oneLt' true a b) Q E s := by
  have hal : alikeAll xs ys = true := by simpa [alike] using h
  cases ra with
  | @tuple l o vs n _ as₁ h1 h2 h3 h4 =>
    cases rb with
    | @tuple l' o' vs' n' _ bs₁ k1 k2 k3 k4 =>
      have n1 : vs.size = xs.length := by simpa using ReadsAll.length _ _ _ h4
      have n2 : vs'.size = ys.length := by simpa using ReadsAll.length _ _ _ k4
      rw [dataLt_tuple, ← firstLt_toks xs ys hal, ← n1, ← n2] at hq
      rw [oneLt'_eq]
      simp only [if_true]
      refine wpAny_bind (wpAny_cRoomFor (room_here hu) ?_)
      refine wpAny_bind (wpAny_callSpecialIfBound?_slot (T := "tuple") ⟨_, h1, h2⟩ F.slot_tuple_lt (call_tuple_lt (e := pairEq xs ys) (r := fun j => dataLt (xs.getD j .none) (ys.getD j .none)) ⟨_, h1, h2, _, h3⟩ ⟨_, k1, k2, _, k3⟩ (fun j j1 j2 => ?_) (fun j j1 j2 hj => ?_) ?_))
      · have := eqAt_alikeAll xs ys A.in1 s vs.toList vs'.toList _ _ h4 k4 hal (room_in hu) j (by simpa using j1) (by simpa using j2)
        simpa using this
      · have := rcLt_alikeAll xs ys A.in1 s vs.toList vs'.toList _ _ h4 k4 hal (room_in hu) j (by simpa using j1) (by simpa using j2) hj
        simpa using this
      · exact wpAny_truthy_bool hq
theorem first_tup {v : Value} {xs : List PyData} {as : List Addr} {Q : Option Value → Shared → Prop} (r : Reads s.heap v (.tuple xs) as) (h : ∀ o : Option Value, (xs = [] → o = none) → Q o s) : wpAny (model prog w) A (firstOfTuple' v) Q E s := by
  cases r with
  | @tuple l o vs n _ as₁ h1 h2 h3 h4 =>
    rw [kas_first_eq]
    refine wpAny_bind (Looks.here (show Looks (model prog w) s.heap (typeOf (.ref l)) o.cls from (Looks.ld h1).andThen .now) ?_)
    rw [h2, if_neg (by first | decide | simp)]
    refine wpAny_bind (listItems_at h1 h3 (wpAny_pure ?_))
    refine h _ fun z => ?_
    subst z
    have n1 : vs.size = 0 := by simpa using ReadsAll.length _ _ _ h4
    rw [Array.getElem?_eq_none (by omega)]
theorem mapM_ex {α β : Type} {f : α → Sem β} : ∀ (l : List α) {Q : List β → Shared → Prop}, (∀ v ∈ l, ∀ (Q' : β → Shared → Prop), (∀ r, Q' r s) → wpAny (model prog w) A (f v) Q' E s) → (∀ bs, Q bs s) → wpAny (model prog w) A (l.mapM f) Q E s
  | [], _, _, h => by rw [List.mapM_nil]; exact wpAny_pure (h _)
  | x :: l, Q, hf, h => by
    rw [List.mapM_cons]
    exact wpAny_bind (hf x (.head _) _ fun r => wpAny_bind (mapM_ex l (Q := fun bs s' => wpAny (model prog w) A (pure (r :: bs)) Q E s') (fun v hv => hf v (.tail _ hv)) fun bs => wpAny_pure (h _)))
theorem kind_tup {v₁ : Value} {rest : List Value} {as : List Addr} {Q : SortKind → Shared → Prop} (h1 : Reads s.heap v₁ (.tuple []) as) (hr : ∀ v ∈ rest, ∃ xs as, Reads s.heap v (.tuple xs) as) (h : Q oneType' s) : wpAny (model prog w) A (keyKind' (v₁ :: rest).toArray) Q E s := by
  have hT : ∀ v ∈ v₁ :: rest, Looks (model prog w) s.heap (typeOf v) (Value.type "tuple") := fun v hv => by
    rcases List.mem_cons.mp hv with rfl | hv
    · exact looks_reads h1
    · obtain ⟨xs, as, r⟩ := hr v hv
      exact looks_reads r
  rw [keyKind'_eq, List.mapM_toArray, map_eq_pure_bind, List.mapM_cons]
  refine wpAny_bind (wpAny_bind (wpAny_bind (first_tup h1 fun o ho => ?_)))
  rw [ho rfl]
  refine wpAny_bind (mapM_ex rest (fun v hv Q' hq => ?_) fun bs => ?_)
  · obtain ⟨xs, as, r⟩ := hr v hv
    exact first_tup r fun o _ => hq o
  · refine wpAny_pure (wpAny_pure ?_)
    rw [if_neg (by simp), if_neg (by simp)]
    rw [oneTypeOnly'_eq, List.mapM_toArray, map_eq_pure_bind]
    refine wpAny_bind (wpAny_bind (wpAny_bind (kas_mapM (r := Value.type "tuple") _ (fun v hv Q' hq => (hT v hv).here hq) (wpAny_pure ?_))))
    have hall : ((List.map (fun _ => Value.type "tuple") (v₁ :: rest)).toArray.all fun x => x == Value.type "tuple") = true := by
      simp only [List.all_toArray, List.all_map, List.all_eq_true]
      intro _ _
      exact beq_self_eq_true _
    have h0 : (List.map (fun _ => Value.type "tuple") (v₁ :: rest)).toArray[0]? = some (Value.type "tuple") := by simp
    rw [h0]
    simp only [hall, if_true]
    exact wpAny_pure (wpAny_pure h)
theorem sortsAt_tup {vs : List Value} {ds : List PyData} (e : EachIs (fun v d => ∃ as, Reads s.heap v d as) vs ds) (hal : AllAlike ds) (ht : ∀ d ∈ ds, ∃ xs, d = .tuple xs) (h0 : ds.head? = some (.tuple [])) (hu : ∀ d, d ∈ ds → A.units + d.depth < cLine) : SortsAt prog w A s (dataKind s.heap ds) vs := by
  have room : ∀ {d d' : PyData}, d ∈ ds → A.units + min d.depth d'.depth < cLine := fun {d d'} hd => Nat.lt_of_le_of_lt (Nat.add_le_add_left (Nat.min_le_left _ _) _) (hu d hd)
  refine ⟨fun v hv => ?_, oneType', ?_, fun h2 E Q hq => ?_⟩
  · obtain ⟨d, hd, as, r⟩ := e.left v hv
    exact ⟨_, dataKind_some hal hd r⟩
  · intro E x y a b Q ha hb hq
    obtain ⟨d, as, hd, ra, rfl⟩ := dataKind_inv ha
    obtain ⟨d', as', hd', rb, rfl⟩ := dataKind_inv hb
    rw [keyLt'_oneType]
    obtain ⟨xs, rfl⟩ := ht d hd
    obtain ⟨ys, rfl⟩ := ht d' hd'
    exact oneLt_tup ra rb (hal _ hd _ hd') (room hd) hq
  · cases e with
    | nil => cases h0
    | @cons v₁ d₁ rest ds₁ h t =>
      have h0 : some d₁ = some (PyData.tuple []) := h0
      cases h0
      obtain ⟨as, r⟩ := h
      refine kind_tup r (fun v hv => ?_) hq
      obtain ⟨d, hd, as, r⟩ := t.left v hv
      obtain ⟨xs, rfl⟩ := ht d (List.mem_cons_of_mem _ hd)
      exact ⟨xs, as, r⟩
theorem sorted_tup {β : Type} {vs : List Value} {bs : List β} {enc : β → PyData} {R : Value → β → Prop} {l : Addr} {Q : Value → Shared → Prop} (hl : s.heap.IsList l vs.toArray) (e : EachIs R vs bs) (er : EachIs (fun v b => ∃ as, Reads s.heap v (enc b) as) vs bs) (hal : AllAlike (bs.map enc)) (ht : ∀ d ∈ bs.map enc, ∃ xs, d = .tuple xs) (h0 : (bs.map enc).head? = some (.tuple [])) (hL : bs.length ≤ sizeLine)
    (hu : ∀ b, b ∈ bs → A.units + 2 + (enc b).depth < cLine) (h : ∀ out, out.length = bs.length → EachIs R out (bs.mergeSort (dataLe false enc)) → Q (.ref (s.heap.objs.size + 1)) { s with heap := sortedAll s.heap vs (List.toArray out) }) :
    wpAny (model prog w) A (call (.builtin "sorted") [.ref l]) Q E s := by
  have er' : EachIs (fun v b => ∃ as, Reads (sortingHeap (copyHeap s.heap vs) (s.heap.objs.size + 1) vs) v (enc b) as) vs bs := er.mono fun _ _ ⟨as, r⟩ => ⟨as, PyProof.Rows.Reads.keeps (fun _ _ => sorting_copy_old) r⟩
  exact sorted_vals hl (sortsAt_tup (s := { s with heap := sortingHeap (copyHeap s.heap vs) (s.heap.objs.size + 1) vs }) (each_map (R := fun v d => ∃ as, Reads (sortingHeap (copyHeap s.heap vs) (s.heap.objs.size + 1) vs) v d as) enc er') hal ht h0 (bound_map hu)) (by rw [e.length]; exact hL)
    (h _ (by rw [sortVals_length false rfl]; exact e.length) (sortVals_data false e er' hal))
end
open L2
def rSortT : List V → Hp → VK → Prop := fun vs H Q => ∃ (a : Addr) (xs : List V) (bs : List (VT Int)) (Hs : Hp), vs = [V.ref a] ∧ bs.head? = some (VT.mk []) ∧ Rd H a (.lst xs) ∧ xs.length ≤ sizeLine ∧ Ex Hs H ∧ DqAll Hs xs (bs.map Py.enc) ∧
  ∀ ys p, ys.length = xs.length → DqAll Hs ys ((sortD bs).map Py.enc) → H p = none → Q (.ref p) (upd H p (.lst ys))
theorem vt_ali : ∀ xs ys : List Int, alikeAll (xs.map Py.enc) (ys.map Py.enc) = true := fun xs ys => ali_map xs ys
theorem cr_sortT {X : Cx} (hu : X.A.units + 65 < cLine) : CallR X (.builtin "sorted") rSortT := by
  intro pins s σ H vs us Q I r h
  obtain ⟨a, xs, bs, Hs, rfl, h0, hs, hz, eH, hall, q⟩ := h
  obtain ⟨its, rv, hl, _⟩ := I.list (.inl hs)
  rw [Vals.ref1 r]
  have e1 := each_of hall rv
  have hbl : bs.length = xs.length := by rw [dqa_len hall, List.length_map]
  have lay : ∀ b : VT Int, (Py.enc b : PyData).canLay0 = true := fun b => by
    show PyData.canLay0 (.tuple (b.l.map Py.enc)) = true
    rw [PyData.canLay0]
    exact lay_mapS b.l
  have er : EachIs (fun v b => ∃ as, Reads s.heap v (Py.enc b) as) its bs := e1.mono fun v b ⟨x, r, d⟩ => Dp.reads I _ x v (dq_dp _ _ (lay b) (dq_mo eH _ _ d)) r
  refine sorted_tup hl.isList e1 er (AllAlike.of fun b b' => ?_) (fun d hd => ?_) ?_ (by omega) (fun b _ => ?_) fun out hlen ho => ?_
  · show alike (.tuple (b.l.map Py.enc)) (.tuple (b'.l.map Py.enc)) = true
    rw [alike]
    exact vt_ali b.l b'.l
  · obtain ⟨b, _, rfl⟩ := List.mem_map.mp hd
    exact ⟨_, rfl⟩
  · rw [List.head?_map, h0]
    rfl
  · have : (Py.enc b : PyData).depth ≤ 1 := by
      show PyData.depth (.tuple (b.l.map Py.enc)) ≤ 1
      rw [PyData.depth]
      have := dep_mapS b.l
      omega
    omega
  · obtain ⟨ys, h1, h2⟩ := of_each ho
    obtain ⟨ep, he'⟩ := PyProof.Rows.sortedAll_at s.heap its out.toArray
    have hly : ys.length = xs.length := by rw [h1.length, hlen, hbl]
    exact ⟨.ref _, upd H (s.heap.objs.size + 1) (.lst ys), I.laid (t' := s.toks) (fun _ _ => PyProof.Rows.sortedAll_old) (Nat.le_succ _) ⟨by omega, out, ep, h1, he'⟩, rfl, q ys _ hly h2 (I.hok.fresh (Nat.le_succ _))⟩
theorem cl_sortT {X : Cx} {b : Bs} {N : List Str} {sc : Scope} {mg : Str → Option Value} {W : Str → Bool} {la : Lv} (c : Cf X N sc mg W) {xs : List (VT Int)} (h0 : xs.head? = some (VT.mk [])) : CalV X b (.builtin "sorted") [(la, Py.enc xs)] la (Py.enc (sortD xs)) := ⟨_, cr_sortT c.un, fun F H vs Q fz h k => by
  obtain ⟨v, rfl, d⟩ := dql1 h
  obtain ⟨a, ws, rfl, hq, hzz, hall⟩ := dp_lst d
  exact ⟨a, ws, xs, _, rfl, h0, rd_sel fz hq, hzz, sel_le fz.h la, hall, fun ys p hy hd hp => new_lst fz hd (by omega) hp k⟩⟩
end Zk

namespace Zk
open PySem PySem.Spec PyProof.Rows L2
instance inhVT {α : Type} : Inhabited (VT α) := ⟨VT.mk []⟩
section
variable {X : Cx} {t : Tx} {b : Bs} {N ps : List Str} {sc : Scope} {mg : Str → Option Value} {W : Str → Bool} {Γ Γ' Γ1 Γ2 : List En} {k k' rl : Bool} {lv la lb lc : Lv} {pos pos' pp apos p1 lpos : Pos} {e e1 e2 : Expr} {es : List Expr} {n j : Nat} {x y : Str}
variable {α β γ : Type} [ia : Py α] [ib : Py β] [ic : Py γ] {p : α} {q : β}
/-! ### trees and tuples by place -/
theorem xe_trIx {t : TR} {w : Int} (hw : w = 2 ∨ w = 3) (ht : t.IsNd) (h1 : XE X b e1 Γ la t) (h2 : XE X b e2 Γ lb w) (hs : PlainIx e2) : XE X b (.Subscript e1 e2 pos) Γ la (cond (decide (w = 2)) t.lo t.hi) :=
  xe_ixT h1 (tr_enc t) h2 (by
    cases t with
    | lf s o =>
      cases o with
      | none => exact absurd (show (1 : Int) = 4 from ht) (by decide)
      | some i => exact absurd (show (2 : Int) = 4 from ht) (by decide)
    | nd p l r => rcases hw with rfl | rfl <;> rfl) hs
theorem tr_nd4 {t l r : TR} {p : Int} (h : t.IsNd) : (Py.enc (T4.mk t.tag p l r) : PyData) = Py.enc (TR.nd p l r) := by
  cases t with
  | lf s o =>
    cases o with
    | none => exact absurd (show (1 : Int) = 4 from h) (by decide)
    | some i => exact absurd (show (2 : Int) = 4 from h) (by decide)
  | nd q a c => rfl
theorem xe_vtIx [Scal α] {xs : VT α} {i : Int} (h1 : XE X b e1 Γ la xs) (h2 : XE X b e2 Γ lb i) (ha : atI xs.l i = some p) (hs : PlainIx e2) : XE X b (.Subscript e1 e2 pos) Γ la p := xe_ixT h1 (ds := xs.l.map Py.enc) rfl h2 (at_map ha) hs
theorem xe_catVT {xs ys : VT α} (h1 : XE X b e1 Γ lv xs) (h2 : XE X b e2 Γ lv ys) (hz : xs.l.length + ys.l.length ≤ 1000000) : XE X b (.BinOp e1 .Add e2 pos) Γ lv (VT.mk (xs.l ++ ys.l)) :=
  xe_op op_catA h1 h2 fun F H v w Q fz d1 d2 kk => by
    obtain ⟨a, vs, rfl, hq, hzz, hall⟩ := dp_tup (ds := xs.l.map Py.enc) d1
    obtain ⟨a2, vs2, rfl, hq2, hzz2, hall2⟩ := dp_tup (ds := ys.l.map Py.enc) d2
    have l1 : vs.length = xs.l.length := by rw [dqa_len hall, List.length_map]
    have l2 : vs2.length = ys.l.length := by rw [dqa_len hall2, List.length_map]
    have hz' : vs.length + vs2.length ≤ sizeLine := Nat.le_trans (by omega) (show 1000000 ≤ sizeLine by decide)
    refine ⟨a, a2, vs, vs2, rfl, rfl, .inl ((sel_le fz.h _).rd hq), .inl ((sel_le fz.h _).rd hq2), hz', fun hx => ?_, fun _ hy => ?_, fun _ _ p hp => ?_⟩
    · refine kk _ F H (Grow.rf fz.h) ?_
      have : xs.l = [] := List.length_eq_zero_iff.mp (by rw [← l1, hx]; rfl)
      rw [this, List.nil_append]
      exact d2
    · refine kk _ F H (Grow.rf fz.h) ?_
      have : ys.l = [] := List.length_eq_zero_iff.mp (by rw [← l2, hy]; rfl)
      rw [this, List.append_nil]
      exact d1
    · refine new_tup (ds := (xs.l ++ ys.l).map Py.enc) fz ?_ (by rw [List.length_append]; exact hz') hp kk
      rw [List.map_append]
      exact dqa_app hall hall2
theorem xe_slVT {xs : VT α} {lo hi : Option Expr} {l h : Option Int} (hw : ¬ (HT.sIx xs.l.length 0 l = 0 ∧ HT.sIx xs.l.length xs.l.length h = xs.l.length)) (h1 : XE X b e1 Γ la xs) (h2 : XO X b lo Γ l) (h3 : XO X b hi Γ h) : XE X b (.Subscript e1 (.Slice lo hi none pos') pos) Γ la (VT.mk (cutL xs.l l h)) :=
  PE.wk (pe_slice sl_tup h1 h2 h3) fun σ H Q ⟨F, ok, k⟩ => ⟨F, ok, fun v F1 H1 g1 d1 => ⟨F1, ok.gr g1, fun F2 H2 g2 => ⟨F2, (ok.gr g1).gr g2, fun F3 H3 g3 => by
    have fz := (((ok.gr g1).gr g2).gr g3).fr
    obtain ⟨a, vs, rfl, hq, hzz, hall⟩ := dp_tup (ds := xs.l.map Py.enc) (dq_mo (sel_mo (g2.tr g3) _) _ _ d1)
    have hl : vs.length = xs.l.length := by rw [dqa_len hall, List.length_map]
    refine ⟨a, vs, rfl, .inl ((sel_le fz.h _).rd hq), by rw [hl]; exact hw, fun p hp => ?_⟩
    have e : cutV vs l h = (vs.drop (HT.sIx xs.l.length 0 l)).take (HT.sIx xs.l.length xs.l.length h - HT.sIx xs.l.length 0 l) := by unfold cutV; rw [hl]
    rw [e]
    refine new_tup (ds := (cutL xs.l l h).map Py.enc) fz ?_ (by simp only [List.length_take, List.length_drop]; omega) hp fun v F' H' g d => k v F' H' (((g1.tr g2).tr g3).tr g) d
    unfold cutL
    rw [List.map_take, List.map_drop]
    exact dqa_take _ (dqa_drop _ hall)⟩⟩⟩
theorem sl1 {α : Type} {xs : List α} (h : xs ≠ []) : ¬ (HT.sIx xs.length 0 (some 1) = 0 ∧ HT.sIx xs.length xs.length none = xs.length) ∧ cutL xs (some 1) none = xs.tail := by
  cases xs with
  | nil => exact absurd rfl h
  | cons x r =>
    have e : HT.sIx (x :: r).length 0 (some 1) = 1 := by
      unfold HT.sIx
      simp
    have e2 : HT.sIx (x :: r).length (x :: r).length none = (x :: r).length := by
      unfold HT.sIx
      simp
    refine ⟨by rw [e]; simp, ?_⟩
    unfold cutL
    rw [e, e2]
    simp
theorem cv_isnotB {p q : Bool} : CmpV X b .IsNot la lb (Py.enc p) (Py.enc q) (!decide (p = q)) := ⟨_, op_isnot_bl, fun F H v w Q fz d1 d2 k => ⟨p, q, dp_bl d1, dp_bl d2, k⟩⟩
/-- a new list, owned -/
theorem xn_lst {xs : List α} (ha : XA X b es Γ ((xs.map Py.enc).map fun d => (Lv.st k, d))) (hz : Nat.ble xs.length 1000 = true := by rfl) : XN X b (.List es lpos) Γ (ownR α k xs) :=
  PE.wk (pe_lst ha) fun σ H Q ⟨F, ok, kk⟩ => ⟨F, ok, fun vs F1 H1 g1 d1 => by
    have d2 : DqAll (sel2 b.B F1 k) vs (xs.map Py.enc) := dql_all d1
    have hz' : vs.length ≤ sizeLine := by rw [dqa_len d2, List.length_map]; exact line_of hz
    refine ⟨hz', fun l hl => kk (.ref l) (fun m => m = l) F1 (upd H1 l (.lst vs)) (g1.tr ⟨Ex.rf F1, g1.h.tr (Ex.nw hl), Ex.nw hl, fun _ _ => rfl⟩) (fun m hm => ?_) ⟨l, vs, rfl, fun m => Iff.rfl, upd_same, hz', d2⟩⟩
    have hm' : m = l := hm
    subst hm'
    refine ⟨?_, by rw [upd_same]; simp, g1.h.no hl⟩
    cases z : H m with
    | none => rfl
    | some o => rw [g1.b m o z] at hl; cases hl⟩
/-- x, y = a new thing, a new thing -/
theorem xs_parNN {i j : Nat} {r r2 : Res} {px pt py : Pos} {kt k2 pt2} (c : Cf X N sc mg W) (hi : N[i]? = some x) (hj : N[j]? = some y) (hij : i ≠ j) (hx : sc.names.lookup x = some .local) (hy : sc.names.lookup y = some .local)
    (h1 : XN X b e1 Γ r) (h2 : XN X b e2 Γ r2) (hw : swappedStores [.Tuple [.Name x px, .Name y py] kt pt] (.Tuple [e1, e2] k2 pt2) X.env = pure (some [x, y]))
    (hs1 : starEach [e1, e2] X.env = (false, eval e1 X.env) :: starEach [e2] X.env := by rfl) (hs2 : starEach [e2] X.env = [(false, eval e2 X.env)] := by rfl) :
    XS X b rl (.Assign [.Tuple [.Name x px, .Name y py] kt pt] (.Tuple [e1, e2] k2 pt2) pos) Γ (none : Option γ) ((Γ.set i (.res r)).set j (.res r2)) :=
  PS.wk (ps_par c.calm (by rw [c.hN]; exact c.nd) (by rw [c.hN]; exact hi) (by rw [c.hN]; exact hj) hij (by rw [c.hs]; exact hx) (by rw [c.hs]; exact hy) (pa_cons h1 (pa_cons h2 pa_nil hs2) hs1) hw rfl) fun D σ H ⟨F, ok, kk⟩ => ⟨F, ok, fun v A F1 H1 g1 hA hr => ⟨F1, ok.gr g1, fun w A2 F2 H2 g2 hA2 hr2 =>
    ⟨v, w, rfl, kk _ F2 H2 (g1.f.tr g2.f) ((ok.newR g1 hA hr i).newR g2 hA2 hr2 j)⟩⟩⟩
/-- x.extend([e, ..]) -/
theorem xs_extD {x : Str} {j : Nat} {xs ys : List α} {apos cpos p1 : Pos} (cf : Cf X N sc mg W) (hN : N[j]? = some x) (hv : Vis sc x) (hΓ : Γ[j]? = some (.res (ownR α k xs))) (ha : XA X b es Γ ((ys.map Py.enc).map fun d => (Lv.st k, d))) (hz : xs.length + ys.length ≤ 1000000) (hd : (x == ("__debug__" : Str)) = false := by decide) (hcd : (x == ("__classdict__" : Str)) = false := by decide)
    (hbase : attributeBase (.Name x p1) "extend" X.env (eval (.Name x p1) X.env) = eval (.Name x p1) X.env := by rfl)
    (hfew : ((backTo cpos (starEach [.List es lpos] X.env)).all (fun x => !x.1) && (backToKw cpos (keywordEach [] X.env)).all (fun x => x.1.isSome) && decide (([.List es lpos] : List Expr).length + ([] : List Keyword).length + (if ([] : List Keyword).isEmpty then 0 else 1) < 30)) = true := by rfl)
    (hline : (apos.endLine == cpos.line) = true := by rfl) (hs : starEach [.List es lpos] X.env = [(false, eval (.List es lpos) X.env)] := by rfl) (hsw : swapsWith (.Call (.Attribute (.Name x p1) "extend" apos) [.List es lpos] [] cpos) none pos.line X.env = pure false := by rfl) :
    XS X b rl (.Expr (.Call (.Attribute (.Name x p1) "extend" apos) [.List es lpos] [] cpos) pos) Γ (none : Option β) (Γ.set j (.res (ownR α k (xs ++ ys)))) := by
  refine PS.wk (ps_expr (pe_bm PySem.F.plainAttrs_list PySem.F.slot_list_extend PySem.F.type_list_extend mt_extend (pe_var (i := j) (by rw [cf.hN]; exact hN) (by rw [cf.hs]; exact hv) hd hcd) (pa_cons (pe_lst ha) pa_nil hs) hbase hfew hline hs) hsw) fun D σ H ⟨F, ok, kk⟩ => ?_
  obtain ⟨v, A, hσ, ⟨l, vs, rfl, hA, hl, hz', d⟩, hAl, _⟩ := ok.mut hΓ
  refine ⟨_, hσ, .inl ⟨rfl, vs, .inl (.inl hl)⟩, F, ok, fun zs F1 H1 g1 d1 => ?_⟩
  have dz : DqAll (sel2 b.B F1 k) zs (ys.map Py.enc) := dql_all d1
  have l2 : zs.length = ys.length := by rw [dqa_len dz, List.length_map]
  have hzs : zs.length ≤ sizeLine := Nat.le_trans (by omega) (show 1000000 ≤ sizeLine by decide)
  refine ⟨hzs, fun b2 hb2 => ?_⟩
  have g2 : Grow F1 H1 F1 (upd H1 b2 (.lst zs)) := ⟨Ex.rf F1, g1.h.tr (Ex.nw hb2), Ex.nw hb2, fun _ _ => rfl⟩
  have ok1 := (ok.gr g1).gr g2
  obtain ⟨v', A', hσ', ⟨l', vs', rfl, hA', hl', hz2, d2⟩, hAl', mu⟩ := ok1.mut hΓ
  rw [hσ] at hσ'
  cases hσ'
  have l1 : vs'.length = xs.length := by rw [dqa_len d2, List.length_map]
  refine ⟨l, b2, vs', zs, rfl, rfl, hl', upd_same, Nat.le_trans (by omega) (show 1000000 ≤ sizeLine by decide), kk _ F1 _ g1.f (mu _ _ (fun m hm => upd_ne fun z => hm ((hA' m).mpr z)) (fun m hm => ?_) ⟨l, vs' ++ zs, rfl, hA', upd_same, ?_, ?_⟩)⟩
  · rw [(hA' m).mp hm, upd_same]; exact fun z => by cases z
  · rw [List.length_append]; exact Nat.le_trans (by omega) (show 1000000 ≤ sizeLine by decide)
  · rw [List.map_append]
    exact dqa_app d2 dz
end
end Zk
namespace Zk
open PySem PySem.Spec PyProof.Rows L2
theorem swapF2 {X : Cx} {x y : Str} {px py pt : Pos} {pt2 : Pos} {e1 e2 : Expr} {c1 c2} (hf : [e1, e2].all (foldedForSure 8) = true) : swappedStores [.Tuple [.Name x px, .Name y py] c1 pt] (.Tuple [e1, e2] c2 pt2) X.env = pure none := by
  unfold swappedStores
  simp only [hf, if_true]
  split
  · rfl
  · split
    · rfl
    · split
      · rfl
      · rfl
end Zk

namespace Zk
open PySem PySem.Spec PyProof.Rows L2

/-! ### ways down a tree -/
def putR : TR → List Int → TR → TR
  | t, [], u => u
  | .nd p l r, w :: ws, u => bif decide (w = 2) then .nd p (putR l ws u) r else .nd p l (putR r ws u)
  | t, _ :: _, u => t
def atR : TR → List Int → Option TR
  | t, [] => some t
  | .nd p l r, w :: ws => bif decide (w = 2) then atR l ws else bif decide (w = 3) then atR r ws else none
  | .lf _ _, _ :: _ => none
theorem at_nil (t : TR) : atR t [] = some t := by cases t <;> rfl
theorem put_nil (t u : TR) : putR t [] u = u := by cases t <;> rfl
theorem at_cons {t : TR} {w : Int} {ws : List Int} {u : TR} (h : atR t (w :: ws) = some u) : t.IsNd ∧ ((w = 2 ∧ atR t.lo ws = some u) ∨ (w = 3 ∧ atR t.hi ws = some u)) := by
  cases t with
  | lf s o => cases h
  | nd p l r =>
    refine ⟨rfl, ?_⟩
    unfold atR at h
    by_cases h2 : w = 2
    · rw [decide_eq_true h2] at h
      exact .inl ⟨h2, h⟩
    · rw [decide_eq_false h2] at h
      by_cases h3 : w = 3
      · rw [decide_eq_true h3] at h
        exact .inr ⟨h3, h⟩
      · rw [decide_eq_false h3] at h
        cases h
theorem at_app : ∀ (p q : List Int) (t : TR), atR t (p ++ q) = (atR t p).bind fun u => atR u q
  | [], q, t => by rw [at_nil]; rfl
  | w :: p, q, .lf s o => rfl
  | w :: p, q, .nd x l r => by
    show (bif decide (w = 2) then atR l (p ++ q) else bif decide (w = 3) then atR r (p ++ q) else none) = (bif decide (w = 2) then atR l p else bif decide (w = 3) then atR r p else none).bind _
    cases decide (w = 2) with
    | true => exact at_app p q l
    | false =>
      cases decide (w = 3) with
      | true => exact at_app p q r
      | false => rfl
theorem at_lo {t u : TR} {p : List Int} (h : atR t p = some u) (hn : u.IsNd) : atR t (p ++ [2]) = some u.lo := by
  rw [at_app, h]
  cases u with
  | lf s o => cases o with
    | none => exact absurd (show (1 : Int) = 4 from hn) (by decide)
    | some i => exact absurd (show (2 : Int) = 4 from hn) (by decide)
  | nd x l r => show atR l [] = some l; exact at_nil l
theorem at_hi {t u : TR} {p : List Int} (h : atR t p = some u) (hn : u.IsNd) : atR t (p ++ [3]) = some u.hi := by
  rw [at_app, h]
  cases u with
  | lf s o => cases o with
    | none => exact absurd (show (1 : Int) = 4 from hn) (by decide)
    | some i => exact absurd (show (2 : Int) = 4 from hn) (by decide)
  | nd x l r => show atR r [] = some r; exact at_nil r
theorem TR.dep_pos (t : TR) : 1 ≤ t.dep := by
  cases t with
  | lf s o => exact Nat.le_refl 1
  | nd p l r => show 1 ≤ max l.dep r.dep + 1; omega
theorem TR.dep_lo {t : TR} (h : t.IsNd) : t.lo.dep + 1 ≤ t.dep ∧ t.hi.dep + 1 ≤ t.dep ∧ t.lo.tsz + t.hi.tsz + 1 = t.tsz := by
  cases t with
  | lf s o => cases o with
    | none => exact absurd (show (1 : Int) = 4 from h) (by decide)
    | some i => exact absurd (show (2 : Int) = 4 from h) (by decide)
  | nd x l r =>
    refine ⟨?_, ?_, rfl⟩
    · show l.dep + 1 ≤ max l.dep r.dep + 1
      omega
    · show r.dep + 1 ≤ max l.dep r.dep + 1
      omega
theorem at_dep : ∀ {p : List Int} {t u : TR}, atR t p = some u → p.length + u.dep ≤ t.dep
  | [], t, u, h => by
    rw [at_nil] at h
    cases h
    simp
  | w :: p, t, u, h => by
    obtain ⟨hn, h⟩ := at_cons h
    have := TR.dep_lo hn
    show p.length + 1 + u.dep ≤ t.dep
    rcases h with ⟨_, h⟩ | ⟨_, h⟩ <;> have := at_dep h <;> omega
theorem put_dep : ∀ {p : List Int} {t u v : TR}, atR t p = some u → (putR t p v).dep ≤ max t.dep (p.length + v.dep)
  | [], t, u, v, _ => by rw [put_nil]; show v.dep ≤ max t.dep (0 + v.dep); omega
  | w :: p, .lf s o, u, v, h => by cases h
  | w :: p, .nd x l r, u, v, h => by
    obtain ⟨_, h'⟩ := at_cons h
    show (bif decide (w = 2) then TR.nd x (putR l p v) r else TR.nd x l (putR r p v)).dep ≤ max (max l.dep r.dep + 1) (p.length + 1 + v.dep)
    rcases h' with ⟨hw, h'⟩ | ⟨hw, h'⟩
    · rw [decide_eq_true hw]
      have := put_dep (p := p) (t := l) (v := v) h'
      have this : (putR l p v).dep ≤ max l.dep (p.length + v.dep) := this
      show max (putR l p v).dep r.dep + 1 ≤ _
      omega
    · subst hw
      have := put_dep (p := p) (t := r) (v := v) h'
      have this : (putR r p v).dep ≤ max r.dep (p.length + v.dep) := this
      show max l.dep (putR r p v).dep + 1 ≤ _
      omega
/-! ### a while that an order ends -/
theorem wend_inv {S : Type} {c : S → Bool} {step : S → S} (I : S → Prop) (μ : S → Nat) (hs : ∀ s, I s → c s = true → I (step s) ∧ μ (step s) < μ s) : ∀ (n : Nat) (s : S), I s → μ s ≤ n → c (wEnd c step n s) = false ∧ I (wEnd c step n s)
  | 0, s, hi, hm => by
    refine ⟨?_, hi⟩
    cases h : c s with
    | false => exact h
    | true => have := (hs s hi h).2; omega
  | n + 1, s, hi, hm => by
    unfold wEnd
    cases h : c s with
    | false => exact ⟨h, hi⟩
    | true =>
      obtain ⟨h1, h2⟩ := hs s hi h
      exact wend_inv I μ hs n (step s) h1 (by omega)
theorem wr_inv {S : Type} {c : S → Bool} {step : S → S} {I : S → Prop} {s0 : S} (h0 : I s0) (hs : ∀ s, I s → c s = true → I (step s)) {s : S} (h : WR c step s0 s) : I s := by
  induction h with
  | z => exact h0
  | s _ hc ih => exact hs _ ih hc
theorem sz16 {t : TR} (h : t.dep ≤ 16) : t.tsz ≤ 100000 := by
  have h1 := t.tsz_dep
  have h2 : 2 ^ t.dep ≤ 2 ^ 16 := Nat.pow_le_pow_right (by decide) h
  omega
def sumT (l : List (VT Int × TR)) : Nat := (l.map fun e => e.2.tsz).sum
theorem sumT_app (a b : List (VT Int × TR)) : sumT (a ++ b) = sumT a + sumT b := by unfold sumT; rw [List.map_append, List.sum_append]
theorem sumT_len : ∀ l : List (VT Int × TR), l.length ≤ sumT l
  | [] => Nat.zero_le _
  | e :: l => by
    have := sumT_len l
    have h := e.2.tsz_pos
    show l.length + 1 ≤ e.2.tsz + sumT l
    omega
end Zk

namespace Zk
open PySem PySem.Spec PyProof.Rows L2

/-! ### any(bools) while an exception is handled -/
section
variable {prog : Program} {w : World} {A : Around} {E : Value → Shared → Prop} {s : Shared}
theorem list_end_hot {it l x1 : Addr} {i : Nat} {items : Array Value} {Q : Option Value → Shared → Prop} (hot : HotX.HotAt A x1 s.heap) (hne : x1 ≠ it)
    (hit : s.heap.IsListIter it l i) (hl : s.heap.IsList l items) (hx : items[i]? = none)
    (hQ : ∀ h', (∀ b o, b ≠ it → s.heap.get? b = some o → h'.get? b = some o) → Q none { s with heap := h' }) : wpAny (model prog w) A (pyNext (.ref it)) Q E s := by
  obtain ⟨o, ho, hc, hd⟩ := id hit
  obtain ⟨ol, hol, _, nl, hdl⟩ := hl
  obtain ⟨hh, o1, vs1, h1, d1, c1⟩ := hot
  unfold pyNext
  refine wpAny_bind (wpAny_attempt (wpAny_callSpecial?_slot (name := Str.ofString "__next__") hit.typeIs slot_listiter_next
    (wpAny_call_entry slot_listiter_next hit.typeIs entry_listiter_next ?_ (args_listiter_next _))))
  show wpAny _ _ (field (.ref it) 0 >>= _) _ _ s
  refine wpAny_bind (wpAny_field ho hd (x := .ref l) rfl ?_)
  show wpAny _ _ (if (Value.ref l == Value.none) = true then _ else _) _ _ s
  rw [if_neg (show ¬ ((Value.ref l == Value.none) = true) from Bool.false_ne_true)]
  show wpAny _ _ (field (.ref it) 1 >>= _) _ _ s
  refine wpAny_bind (wpAny_field ho hd (x := .int i 0) rfl ?_)
  show wpAny _ _ (seqItems? (.ref l) >>= _) _ _ s
  refine wpAny_bind (wpAny_seqItems hol hdl ?_)
  simp only [Int.toNat_natCast, hx]
  refine wpAny_bind (wpAny_rule (wpAny_bind (wpAny_setField ho hd (by simp) ?_)))
  have g1 : ∀ b u, b ≠ it → s.heap.get? b = some u → (s.heap.update it (Obj.mapFields (·.setIfInBounds 0 Value.none))).get? b = some u := fun b u hb e => by
    rw [Heap.get?_update_other _ _ (Ne.symm hb)]
    exact e
  show wpAny _ _ (newExc (.type "StopIteration") [] >>= _) _ _ _
  refine wpAny_bind ?_
  simp only [newExc, newTuple]
  refine wpAny_bind (wpAny_newObj_type ?_ (by size_fits))
  refine wpAny_bind (m := firstArgMember _ _) (wpAny_of_eq (a := Value.none) (by first | rfl | (simp only [firstArgMember]; rfl)) ?_)
  refine wpAny_newObj_type ?_ (by size_fits)
  have gx := g1 _ _ hne h1
  refine HotX.raiseNew_hot ⟨hh, o1, vs1, Heap.get?_push_of_some _ (Heap.get?_push_of_some _ gx), d1, c1⟩ (Nat.ne_of_lt (Heap.lt_size (Heap.get?_push_of_some _ gx))) (Heap.get?_push_size _ rfl) rfl (by first | (simp; done) | (simp; omega) | (simp only [Array.size_append]; simp; omega)) ?_
  refine wpAny_bind (wpAny_isInstance (T := "StopIteration") (b := true) ⟨_, Heap.get?_update_self _ (Heap.get?_push_size _ rfl) rfl, rfl⟩ isSubtype_stop ?_)
  refine wpAny_pure (hQ _ fun b u hb e => ?_)
  have e' := g1 b u hb e
  rw [Heap.get?_update_other _ _ (Nat.ne_of_gt (Heap.lt_size (Heap.get?_push_of_some _ e')))]
  exact Heap.get?_push_of_some _ (Heap.get?_push_of_some _ e')
theorem walks_hot {x1 : Addr} {o1 : Obj} {vs1 : Array Value} (hh : A.handled = some (.ref x1)) (d1 : o1.data = .fields vs1) (c1 : vs1[2]? = some .none) (I ax : Addr) (hne : ax ≠ I) (hx1 : x1 ≠ I) (items : Array Value) :
    Walks prog w A I [I, ax, x1] [I] items.size (fun i v => items[i]? = some v) (fun i h => h.IsListIter I ax i ∧ h.IsList ax items ∧ h.get? x1 = some o1) where
  sub := fun b hb => by simp at hb; simp [hb]
  frame := fun _ _ _ st hk => ⟨st.1.at fun o e => hk I (by simp) o e, st.2.1.at fun o e => hk ax (by simp) o e, hk x1 (by simp) _ st.2.2⟩
  item := fun i s Q E hi st hQ => by
    refine wpAny_pyNext_list_item st.1 st.2.1 (x := items[i]) (by simp [hi]) fun h' hit' hs' => ?_
    exact hQ _ h' s.toks (by simp [hi]) ⟨hit', st.2.1.extBut hs'.extBut hne, hs'.extBut x1 _ hx1 st.2.2⟩ fun b o hb e => hs'.extBut b o (fun h => hb (by simp [h])) e
  done := fun s Q E st hQ => list_end_hot ⟨hh, o1, vs1, st.2.2, d1, c1⟩ hx1 st.1 st.2.1 (by simp) fun h' he' => hQ h' s.toks fun b o hb e => he' b o (fun h => hb (by simp [h])) e
  self := fun _ _ _ _ st hQ => wpAny_pyIter_listiter st.1 hQ
end
theorem cr_anyH {X : Cx} (hc : L2H.HotC X) : CallR X (.builtin "any") (rAny X.K) := by
  intro pins s σ H vs us Q I r h
  obtain ⟨a, bs, rfl, hs, q⟩ := h
  obtain ⟨its, rv, hl, _⟩ := I.list hs
  obtain ⟨p, ⟨hh, v1, e1, c1⟩, hp⟩ := hc
  have hx := (I.pin p (List.mem_append_left _ hp)).1
  rw [Vals.ref1 r]
  have hb := rv.bls
  refine call_any_walk (iter_any hl.isList fun s₂ e2 st hne => ?_)
  subst e2
  have hlt : p.1 < s.heap.objs.size := Heap.lt_size hx
  refine ⟨_, _, _, _, _, _, _, rfl, walks_hot (A := X.A.in1) hh e1 c1 _ a hne (Nat.ne_of_lt hlt) its.toArray, ⟨st.1, st.2, Heap.get?_push_of_some _ hx⟩, truth_bools hb, fun h' tk hk => ?_⟩
  refine ⟨.bl _, H, I.kept fun b o eo => hk b o (fun hmem => ?_) (Heap.get?_push_of_some _ eo), ?_, q⟩
  · rcases List.mem_cons.mp hmem with e1 | hmem
    · exact absurd (e1 ▸ Heap.lt_size eo) (Nat.lt_irrefl _)
    · cases hmem
  · show Value.bool _ = Value.bool _
    rw [← L2.any_range, hb, List.size_toArray, List.length_map]

/-! ### o.m(e, ..) within a try -/
def tMethS (C : Addr) (m : Str) (sp : Sp) (E : L2.St → XK) (ta : TE) (t : TA) : TE := fun σ H Q => ta σ H fun x H1 => ∃ a dx fs, x = .ref a ∧ H1 a = some (.ins C dx fs) ∧ fs.lookup m = none ∧ t σ H1 fun vs H2 => sp (x :: vs) H2 Q (E σ)
theorem pe_methS {X : Cx} {CX : CXT} {k : Nat} {f C : Addr} {fd : FuncData} {ps : List Str} {sp : Sp} {E : L2.St → XK} {m : Str} {pos apos : Pos} {e o : Expr} {es : List Expr} {ta : TE} {t : TA} {pl : Sem Bool} (he : PE X o ta) (c : Cls X.K C) (hm : Meth X.K C m f)
    (F : FnOk X.prog X.w X.K X.mg X.base CX k f fd ps sp) (hr : Room k X.A) (hb : Binds X.K fd ps []) (hx : ∀ σ, PassesAt CX X σ (E σ)) (ha : PA X (e :: es) t)
    (hst : starEach (e :: es) X.env = (false, eval e X.env) :: starEach es X.env := by rfl) (hpl : (backTo pos (starEach es X.env)).any (·.1) = false := by rfl)
    (ht : eval (.Call (.Attribute o m apos) (e :: es) [] pos) X.env = (do
      let ov ← eval o X.env
      standAt apos.atName
      let (f, first) ← holding [ov] (getMethod ov m pl)
      callWith pos f first (backTo pos (starEach (e :: es) X.env)) (backToKw pos (keywordEach [] X.env))) := by rfl) :
    PE X (.Call (.Attribute o m apos) (e :: es) [] pos) (tMethS C m sp E ta t) := by
  refine ⟨fun pins s σ H Q I h => ?_⟩
  refine PySem.W.methodCall_KW (pl := pl) (thn (he.run pins s σ H _ I h) fun u s1 ⟨x, H1, I1, rx, a, dx, fs, ex, ea, l, q⟩ => ?_) ht
  subst ex
  obtain rfl : u = Value.ref a := rx
  refine getmeth_ok I1 ea c hm l ?_
  refine PySem.W.callWith_K (first := [.ref a]) (h₀ := X.base) I.ok.mod.kin hm.kp (thn (ha.run pos pins s1 σ H1 _ I1 q) fun us s2 ⟨vs, H2, I2, r, q2⟩ => ⟨I2.kIn, ?_⟩) hst hpl
  exact run_fnS (us := .ref a :: us) (vs := .ref a :: vs) F hr hb (hx σ) I2 (.cons rfl r) q2

/-! ### the class that is raised -/
structure NsAt (t : Tx) (D : Addr) : Prop where
  mg : t.mg "NoSet" = some (.ref D)
  kp : PySem.W.keepIn t.K (.ref D) = true
  ex : PySem.W.excIn t.K D [.type "ValueError", .type "Exception", .type "BaseException", .type "object"] "ValueError.__new__" = true
  sb : PySem.W.subIn t.K (.ref D) (.type "BaseException") = some true
  ty : PySem.W.typeIn t.K (.ref D) = some (.type "type")
  ec : ExcC t.K D
  les : ∃ L, t.mg "LessonError" = some (.ref L) ∧ PySem.W.exmOne t.K (.ref D) (.ref L) = some true
  kit : PySem.W.kitOne t.K (.ref D) (.ref D) = some true
/-- isinstance(e, y), e of the class D -/
def KitAt (t : Tx) (D : Addr) (y : Str) (c : Bool) : Prop := ∃ C, t.mg y = some (.ref C) ∧ PySem.W.kitOne t.K (.ref D) (.ref C) = some c

/-! ### a block that raises -/
def tZ (K : PySem.W.Frag) (b : Bs) (Γ Γ' : List En) (W : WX) (C : Value) : TS := fun D σ H => ∃ F, EnvOk K b F H σ Γ ∧ ∀ σ' F' H', Ex F F' → EnvOk K b F' H' σ' Γ' → W C none σ' H'
abbrev XZ (X : Cx) (b : Bs) (ss : List Stmt) (Γ Γ' : List En) (W : WX) (C : Value) : Prop := PSs X ss (tZ X.K b Γ Γ' W C)
section
variable {X : Cx} {t : Tx} {b : Bs} {N ps : List Str} {sc : Scope} {mg : Str → Option Value} {W : Str → Bool} {Wx : WX} {Γ Γ' Γ1 Γ2 : List En} {k k' rl : Bool} {pos pos' pp apos p1 : Pos} {e tt o : Expr} {st : Stmt} {rest body els : List Stmt} {es : List Expr} {n j m : Nat} {x y f : Str} {C D : Addr} {s : Os} {cv : Value}
variable {β : Type} [ib : Py β] {ι : Type} {ins : ι → List En} {pre : ι → Os}
theorem xz_seq (h1 : XS X b rl st Γ (none : Option β) Γ1) (h2 : XZ X b rest Γ1 Γ2 Wx cv) : XZ X b (st :: rest) Γ Γ2 Wx cv :=
  PSs.wk (pss_cons h1 h2) fun D σ H ⟨F, ok, kk⟩ => ⟨F, ok, fun σ1 F1 H1 g1 ok1 => ⟨F1, ok1, fun σ2 F2 H2 g2 ok2 => kk σ2 F2 H2 (g1.tr g2) ok2⟩⟩
theorem xz_if {c : Bool} (ht : XT X b tt Γ c) (hc : c = true) (h : XZ X b body Γ Γ2 Wx cv) : XZ X b (.If tt body els pos :: rest) Γ Γ2 Wx cv := by
  subst hc
  exact PSs.wk (pss_cons (ps_if ht h pss_never) pss_never) fun D σ H ⟨F, ok, kk⟩ => ⟨F, ok, fun F' H' g => iteT ⟨F', ok.gr g, fun σ2 F2 H2 e => kk σ2 F2 H2 (g.f.tr e)⟩⟩
theorem xz_raise {ms : Str} {jj : Nat} {p p2 : Pos} (cf : Cf X N sc mg W) (a : At X t n) (tk : L2N.Takes X Wx) (A : NsAt t D) (hg : sc.names.lookup ("NoSet" : Str) = some .globalImplicit) :
    XZ X b (.Raise (some (.Call (.Name "NoSet" p) [.Constant (.str ms) jj p2] [] pos)) none pos' :: rest) Γ Γ Wx (.ref D) :=
  PSs.wk (pss_cons (L2N.ps_raise cf.calm tk (L2N.pmk_own PySem.F.excBase_ValueError (by rw [a.hK]; exact A.ex) (by rw [a.hm]; exact A.mg) (by rw [a.hK]; exact A.kp) (raises_own (by rw [a.hK]; exact A.sb) (by rw [a.hK]; exact A.ty)) (show X.env.scope.names.lookup _ = _ by rw [cf.hs]; exact hg))) pss_never) fun D σ H ⟨F, ok, kk⟩ => kk σ F H (Ex.rf F) ok

/-! ### the promise of a method that refuses, its object as it was -/
def spOX {ι : Type} (t : Tx) (C : Addr) (ins : ι → List En) (pre : ι → Os) : Sp := fun vs H _ E => ∃ F i v ws A dx d, vs = v :: ws ∧ Ex F H ∧ ArgOk F ws (ins i) ∧ ObjI t.P t.w C (pin (pre i) v dx d) F H v A ∧ (∀ l, A l → H l ≠ none ∧ F l = none) ∧
  ∀ D F' H', NsAt t D → Ex F F' → Ex F' H' → (∀ l o, ¬ A l → H l = some o → H' l = some o) → (∀ l, H l ≠ none → F' l = F l) → (∀ l, A l → H' l ≠ none) → ObjI t.P t.w C (pin (pre i) v dx d) F' H' v A → E (.ref D) none H'
structure MethAtX (t : Tx) (C : Addr) (m : Str) (j : Nat) (ps : List Str) (sp : Sp) : Prop where
  ex : ∃ f fd, FnOk t.P t.w t.K t.mg t.base (L2N.CX t.P t.w) j f fd ps sp ∧ Meth t.K C m f ∧ Binds t.K fd ps []
theorem xz_wk (h : XZ X b body Γ Γ1 Wx cv) (s : Sub Γ1 Γ2) : XZ X b body Γ Γ2 Wx cv := PSs.wk h fun D σ H ⟨F, ok, kk⟩ => ⟨F, ok, fun σ1 F1 H1 g1 ok1 => kk σ1 F1 H1 g1 (ok1.sub s)⟩
end
section
variable {t : Tx} {ι : Type} {ins : ι → List En} {pre : ι → Os} {N ps : List Str} {k j : Nat} {f C : Addr} {fd : FuncData} {x qual : Str} {st : Stmt}
theorem fn_okOX (Fn : Fun t.K x qual st f fd) (S : FnScope N ps (defScope st)) (hl : ∀ i, (ins i).length + 1 = ps.length) (hm : ∀ i, (pre i).mo.isSome = true) (hD : ∃ D, NsAt t D)
    (body : ∀ (X : Cx) (b : Bs) (i : ι) (v0 : V) (dx : Addr) (d : V) (Wx : WX) (D : Addr), Cf X N (defScope st) t.mg (fun _ => true) → At X t k → L2N.Takes X Wx → NsAt t D →
      XZ X b (defBody st) (.res (objR t.P t.w C (pin (pre i) v0 dx d)) :: ins i ++ List.replicate (N.length - ps.length) .no) (.res (objR t.P t.w C (pin (pre i) v0 dx d)) :: List.replicate (N.length - 1) .no) Wx (.ref D)) :
    FnOk t.P t.w t.K t.mg t.base (L2N.CX t.P t.w) (k + 1) f fd ps (spOX t C ins pre) := by
  have hpl : ps.length ≤ N.length := by have := congrArg List.length S.pre; rw [List.length_take] at this; omega
  obtain ⟨D, hD⟩ := hD
  obtain ⟨oc, od, kV, doc, pm, an, cdv, ct, osl, rfl, lk, hcd⟩ := Fn.ex
  refine fn_of lk hcd S (fun vs H Q E ⟨F, i, v, ws, A, dx, d, e, _, a, _⟩ => ?_) (fun Ar outer s H vs Q E hr h => ?_)
  · rw [e, List.length_cons, a.len]
    exact hl i
  obtain ⟨F, i, v, ws, A, dx, d, rfl, e, a, hO, hA, kk⟩ := h
  have hO' := hO
  obtain ⟨a0, dx0, vs0, rfl, h2, h3, h4, h5, h6, h7, h8⟩ := hO
  cases h7 _ rfl
  obtain ⟨m1, hm1⟩ := Option.isSome_iff_exists.mp (hm i)
  have h8 : (match (pre i).mo with | none => H a0 = some (.ins C dx vs0) ∧ ∀ l, A l ↔ (l = a0 ∨ l = dx) | some m => ∃ d', (∀ q, some d = some q → q = .ref d') ∧ H a0 = some (.ins C dx (vs0 ++ [(("known" : Str), V.ref d')])) ∧ MemI t.P t.w m.1 m.2 [] F H (.ref d') (fun l => l = d') ∧ (∀ l, A l ↔ (l = a0 ∨ l = dx ∨ l = d')) ∧ d' ≠ a0 ∧ d' ≠ dx) := h8
  rw [hm1] at h8
  obtain ⟨d0, x0, x1, x2, x3, x4, x5⟩ := h8
  cases x0 _ rfl
  have h := body (cxOf (L2N.CX t.P t.w) t.P t.w t.K t.mg t.base N qual (defScope st) f cdv Ar outer s H E) ⟨hole A H, F, []⟩ i (.ref a0) dx (.ref d0) (fun cls d _ H => E cls d H) D
    ⟨rfl, rfl, rfl, S.nd, rfl, passes_of rfl, (by have := hr.un; show (Ar.deeper _).units + 65 < _; omega), fun _ _ => .inl rfl⟩ ⟨rfl, rfl, rfl, rfl, rfl, hr⟩ (L2N.takes_of rfl rfl rfl rfl) hD
  have hs := start_envO (t := t) (N := N) (R := []) (K := t.K) e a hO' hA (by have := hl i; omega)
  rw [hl i] at hs
  refine ⟨_, h, F, hs, fun σ' F' H' e' ok' => ?_⟩
  obtain ⟨fp, oa⟩ := ok'.get
  obtain ⟨o, ho, v', rfl, hP⟩ := oa.sl 0 _ rfl
  have hP' := hP
  obtain ⟨a1, dx1, vs1, rfl, z2, z3, z4, z5, z6, z7, z8⟩ := hP
  have e1 := z7 _ rfl
  cases e1
  have z8 : (match (pre i).mo with | none => H' a0 = some (.ins C dx vs1) ∧ ∀ l, fp 0 l ↔ (l = a0 ∨ l = dx) | some m => ∃ d', (∀ q, some (V.ref d0) = some q → q = .ref d') ∧ H' a0 = some (.ins C dx (vs1 ++ [(("known" : Str), V.ref d')])) ∧ MemI t.P t.w m.1 m.2 [] F' H' (.ref d') (fun l => l = d') ∧ (∀ l, fp 0 l ↔ (l = a0 ∨ l = dx ∨ l = d')) ∧ d' ≠ a0 ∧ d' ≠ dx) := z8
  rw [hm1] at z8
  obtain ⟨d1, y0, y1, y2, y3, y4, y5⟩ := z8
  have e2 := y0 _ rfl
  cases e2
  have hAe : fp 0 = A := funext fun l => propext ((y3 l).trans (x3 l).symm)
  rw [hAe] at hP'
  refine kk D F' H' hD oa.fr.f oa.fr.h (fun l o hl q => oa.fr.b l o (by show hole A H l = some o; rw [hole_out hl]; exact q)) (fun l hl => ?_) (fun l hl => ?_) hP'
  · by_cases z : A l
    · have z2 : fp 0 l := by rw [hAe]; exact z
      rw [(oa.ow _ l z2).2.1, (hA l z).2]
    · exact oa.fr.n l (by show hole A H l ≠ none; rw [hole_out z]; exact hl)
  · exact (oa.ow 0 l (by rw [hAe]; exact hl)).1
theorem meth_defOX {m q : Str} (D : DefM t C m q st) (S : FnScope N ps (defScope st))
    (hb : ∀ (kV doc pm : Value) (an : Option Addr) (cdv ct : Value) (us : List Value), us.length = ps.length → bindArgs (PySem.W.fnOf m q (defArgs st) (defBody st) (defScope st) .none kV doc pm an cdv ct) ⟨us, []⟩ = pure (ps.zip us))
    (hl : ∀ i, (ins i).length + 1 = ps.length) (hm : ∀ i, (pre i).mo.isSome = true) (hD : ∃ D, NsAt t D)
    (body : ∀ (X : Cx) (b : Bs) (i : ι) (v0 : V) (dx : Addr) (d : V) (Wx : WX) (D : Addr), Cf X N (defScope st) t.mg (fun _ => true) → At X t k → L2N.Takes X Wx → NsAt t D →
      XZ X b (defBody st) (.res (objR t.P t.w C (pin (pre i) v0 dx d)) :: ins i ++ List.replicate (N.length - ps.length) .no) (.res (objR t.P t.w C (pin (pre i) v0 dx d)) :: List.replicate (N.length - 1) .no) Wx (.ref D)) :
    MethAtX t C m (k + 1) ps (spOX t C ins pre) := by
  obtain ⟨f, fd, F, hmt⟩ := D.ex
  exact ⟨f, fd, fn_okOX F S hl hm hD body, hmt, F.binds hb⟩
end

/-! ### a def that tries -/
structure Tr (X : Cx) : Prop where
  st : X.stack = X.env :: X.outer
  fr : X.env.frame = some X.env.locals
section
variable {t : Tx} {ι : Type} {rl : Bool} {ins : ι → List En} {pre post : ι → Os} {out : ι → PyData} {N ps : List Str} {k j : Nat} {f C : Addr} {fd : FuncData} {x : Str} {st : Stmt}
theorem fn_okOT {f : Addr} {fd : FuncData} {qual : Str} (Fn : Fun t.K x qual st f fd) (S : FnScope N ps (defScope st)) (hl : ∀ i, (ins i).length + 1 = ps.length) (hm : ∀ i, (pre i).mo.isSome = true ∧ (post i).mo.isSome = true)
    (body : ∀ (X : Cx) (b : Bs) (i : ι) (v0 : V) (dx : Addr) (d : V), Cf X N (defScope st) t.mg (fun _ => true) → At X t k → Tr X → b.R = .res (objR t.P t.w C (pin (post i) v0 dx d)) :: List.replicate (N.length - 1) .no →
      PSs X (defBody st) (tS X.K b rl (.res (objR t.P t.w C (pin (pre i) v0 dx d)) :: ins i ++ List.replicate (N.length - ps.length) .no) (some (out i)) [])) :
    FnOk t.P t.w t.K t.mg t.base CX0 (k + 1) f fd ps (spO t.P t.w C rl ins pre post out) := by
  have hpl : ps.length ≤ N.length := by have := congrArg List.length S.pre; rw [List.length_take] at this; omega
  refine Fn.ok S (fun vs H Q E ⟨F, i, v, ws, A, dx, d, e, _, a, _⟩ => ?_) (fun cdv Ar outer s H vs Q E hr h => ?_)
  · rw [e, List.length_cons, a.len]
    exact hl i
  obtain ⟨F, i, v, ws, A, dx, d, rfl, e, a, hO, hA, kk⟩ := h
  have hO' := hO
  obtain ⟨a0, dx0, vs0, rfl, h2, h3, h4, h5, h6, h7, h8⟩ := hO
  cases h7 _ rfl
  obtain ⟨m1, hm1⟩ := Option.isSome_iff_exists.mp (hm i).1
  obtain ⟨m2, hm2⟩ := Option.isSome_iff_exists.mp (hm i).2
  have h8 : (match (pre i).mo with | none => H a0 = some (.ins C dx vs0) ∧ ∀ l, A l ↔ (l = a0 ∨ l = dx) | some m => ∃ d', (∀ q, some d = some q → q = .ref d') ∧ H a0 = some (.ins C dx (vs0 ++ [(("known" : Str), V.ref d')])) ∧ MemI t.P t.w m.1 m.2 [] F H (.ref d') (fun l => l = d') ∧ (∀ l, A l ↔ (l = a0 ∨ l = dx ∨ l = d')) ∧ d' ≠ a0 ∧ d' ≠ dx) := h8
  rw [hm1] at h8
  obtain ⟨d0, x0, x1, x2, x3, x4, x5⟩ := h8
  cases x0 _ rfl
  have h := body (cxOf CX0 t.P t.w t.K t.mg t.base N qual (defScope st) f cdv Ar outer s H E).nox ⟨hole A H, F, .res (objR t.P t.w C (pin (post i) (.ref a0) dx (.ref d0))) :: List.replicate (N.length - 1) .no⟩ i (.ref a0) dx (.ref d0)
    ⟨rfl, rfl, rfl, S.nd, rfl, PassesOwn.never, (by have := hr.un; show (Ar.deeper _).units + 65 < _; omega), fun _ _ => .inl rfl⟩ ⟨rfl, rfl, rfl, rfl, rfl, hr⟩ ⟨rfl, rfl⟩ rfl
  have hs := start_envO (t := t) (N := N) (R := .res (objR t.P t.w C (pin (post i) (.ref a0) dx (.ref d0))) :: List.replicate (N.length - 1) .no) (K := t.K) e a hO' hA (by have := hl i; omega)
  rw [hl i] at hs
  refine ⟨_, h, F, hs, fun u σ' F' H' e' ok' d' => ?_⟩
  obtain ⟨fp, oa⟩ := ok'.get
  obtain ⟨o, ho, v', rfl, hP⟩ := oa.sl 0 _ rfl
  have hP' := hP
  obtain ⟨a1, dx1, vs1, rfl, z2, z3, z4, z5, z6, z7, z8⟩ := hP
  have e1 := z7 _ rfl
  cases e1
  have z8 : (match (post i).mo with | none => H' a0 = some (.ins C dx vs1) ∧ ∀ l, fp 0 l ↔ (l = a0 ∨ l = dx) | some m => ∃ d', (∀ q, some (V.ref d0) = some q → q = .ref d') ∧ H' a0 = some (.ins C dx (vs1 ++ [(("known" : Str), V.ref d')])) ∧ MemI t.P t.w m.1 m.2 [] F' H' (.ref d') (fun l => l = d') ∧ (∀ l, fp 0 l ↔ (l = a0 ∨ l = dx ∨ l = d')) ∧ d' ≠ a0 ∧ d' ≠ dx) := z8
  rw [hm2] at z8
  obtain ⟨d1, y0, y1, y2, y3, y4, y5⟩ := z8
  have e2 := y0 _ rfl
  cases e2
  have hAe : fp 0 = A := funext fun l => propext ((y3 l).trans (x3 l).symm)
  rw [hAe] at hP'
  refine kk u F' H' oa.fr.f oa.fr.h (fun l o hl q => oa.fr.b l o (by show hole A H l = some o; rw [hole_out hl]; exact q)) (fun l hl => ?_) (fun l hl => ?_) hP' (dq_mo (fun l o q => ?_) _ _ d')
  · by_cases z : A l
    · have z2 : fp 0 l := by rw [hAe]; exact z
      rw [(oa.ow _ l z2).2.1, (hA l z).2]
    · exact oa.fr.n l (by show hole A H l ≠ none; rw [hole_out z]; exact hl)
  · exact (oa.ow 0 l (by rw [hAe]; exact hl)).1
  · cases rl with
    | false => exact q
    | true =>
      simp only [sel2] at q ⊢
      have q : (match hole A H l with | none => nofrz (F' l) | some _ => none) = some o := q
      by_cases z : A l
      · rw [hole_none z] at q
        have q : nofrz (F' l) = some o := q
        rw [(oa.ow 0 l (by rw [hAe]; exact z)).2.1] at q
        cases q
      · rw [hole_out z] at q
        exact q
theorem fn_defT (D : DefAt t x st) (S : FnScope N ps (defScope st))
    (hb : ∀ (kV doc pm : Value) (an : Option Addr) (cdv ct : Value) (us : List Value), us.length = ps.length → bindArgs (PySem.W.fnOf x x (defArgs st) (defBody st) (defScope st) .none kV doc pm an cdv ct) ⟨us, []⟩ = pure (ps.zip us))
    (hl : ∀ i, (ins i).length + 1 = ps.length) (hm : ∀ i, (pre i).mo.isSome = true ∧ (post i).mo.isSome = true)
    (body : ∀ (X : Cx) (b : Bs) (i : ι) (v0 : V) (dx : Addr) (d : V), Cf X N (defScope st) t.mg (fun _ => true) → At X t k → Tr X → b.R = .res (objR t.P t.w C (pin (post i) v0 dx d)) :: List.replicate (N.length - 1) .no →
      PSs X (defBody st) (tS X.K b rl (.res (objR t.P t.w C (pin (pre i) v0 dx d)) :: ins i ++ List.replicate (N.length - ps.length) .no) (some (out i)) [])) :
    FnAt t x (k + 1) ps (spO t.P t.w C rl ins pre post out) := by
  obtain ⟨f, fd, Fn, hmt⟩ := D.ex
  refine ⟨f, fd, fn_okOT Fn S hl hm body, hmt, Fn.kp, Fn.binds hb⟩
end
end Zk

namespace Zk
open PySem PySem.Spec PyProof.Rows L2

theorem takes0N {X : Cx} : L2N.Takes X (fun _ _ _ _ => False) := fun _ _ x => by
  obtain ⟨_, _, _, _, _, _, _, _, _, _, _, _, _, _, _, _, z⟩ := x
  exact z.elim
/-- an expression that refuses with the class NoSet -/
def tX (t : Tx) (K : PySem.W.Frag) (b : Bs) (Γ : List En) (Wx : WX) : TE := fun σ H _ => ∃ F, EnvOk K b F H σ Γ ∧ ∀ D F' H', NsAt t D → Ex F F' → EnvOk K b F' H' σ Γ → Wx (.ref D) none σ H'
abbrev XX (X : Cx) (t : Tx) (b : Bs) (e : Expr) (Γ : List En) (Wx : WX) : Prop := PE X e (tX t X.K b Γ Wx)
/-- what the suite finds: the exception in its slot -/
def tSu (K : PySem.W.Frag) (b : Bs) (rl : Bool) (Γ : List En) (i : Nat) (a : Addr) (d : PyData) (Γ' : List En) : TS := fun D σ H => ∃ F, EnvOk K b F H σ (Γ.set i .no) ∧ σ[i]? = some (some (.ref a)) ∧ EndOk K b rl D Γ' F (some d)
section
variable {X : Cx} {t : Tx} {b : Bs} {N ps : List Str} {sc : Scope} {mg : Str → Option Value} {W : Str → Bool} {Wx : WX} {Γ Γ' Γ1 Γ2 : List En} {k k' rl : Bool} {pos pos' pp apos p1 p2 ep np : Pos} {e call o : Expr} {st b₀ : Stmt} {rest suite body els : List Stmt} {es : List Expr} {n j m ie io : Nat} {x y f er : Str} {C D : Addr} {os : Os}
variable {β : Type} [ib : Py β] {r : β} {ι : Type} {ins : ι → List En} {pre : ι → Os}
theorem EnvOk.callOX {K : PySem.W.Frag} {F1 H1 : Hp} {σ : L2.St} {i : ι} {v : V} {ws : List V} {Q : VK} {E : XK} (ok1 : EnvOk K b F1 H1 σ Γ) (hΓ : Γ[j]? = some (.res (objR t.P t.w C os))) (hpre : ∀ v dx d, pin os v dx d = pin (pre i) v dx d) (hpo : { pre i with o1 := os.o1, o2 := os.o2 } = os) (hmo : os.mo.isSome = true) (hσ : σ[j]? = some (some v)) (ha : ArgOk F1 ws (ins i))
    (kk : ∀ D F' H', NsAt t D → Ex F1 F' → EnvOk K b F' H' σ Γ → E (.ref D) none H') : spOX t C ins pre (v :: ws) H1 Q E := by
  obtain ⟨fp, oa⟩ := ok1.get
  obtain ⟨o, ho', v', rfl, hI⟩ := oa.sl j _ hΓ
  rw [hσ] at ho'
  cases ho'
  have hI : ObjI t.P t.w C os F1 H1 v (fp j) := hI
  obtain ⟨dx, dd, hp, hb⟩ := hI.pins hmo
  have hmp : (pre i).mo.isSome = true := by rw [← hpo] at hmo; exact hmo
  refine ⟨F1, i, v, ws, fp j, dx, dd, rfl, ok1.fr.h, ha, by rw [← hpre]; exact hp, fun l hl => ⟨(oa.ow j l hl).1, (oa.ow j l hl).2.1⟩, fun D F' H' hD h1 h2 h3 h4 h5 hI' => ?_⟩
  have oc := oa.call (r' := objR t.P t.w C { pre i with o1 := os.o1, o2 := os.o2 }) hΓ h1 h2 h3 h4 h5 fun w hw => by
    rw [hσ] at hw
    cases hw
    exact hb _ _ _ _ hmp hI'
  rw [hpo, set_self hΓ] at oc
  exact kk D F' H' hD h1 oc.ok
theorem xx_meth {ds : List (Lv × PyData)} {m' : Str} {pl : Sem Bool} (cf : Cf X N sc mg W) (a : At X t n) (cl : Cls t.K C) (G : MethAtX t C m' m ps (spOX t C ins pre)) (hj : Nat.ble m n = true) (hN : N[j]? = some x) (hv : Vis sc x) (i : ι) (hΓ : Γ[j]? = some (.res (objR t.P t.w C os))) (hpre : ∀ v dx d, pin os v dx d = pin (pre i) v dx d) (hpo : { pre i with o1 := os.o1, o2 := os.o2 } = os) (hmo : os.mo.isSome = true) (hm : m' ∉ os.fs.map (·.1)) (hk : ¬ m' = "known")
    (tk : L2N.Takes X Wx) (ha : XA X b (e :: es) Γ ds) (fit : Fit ds (ins i)) (hd : (x == ("__debug__" : Str)) = false := by decide) (hcd : (x == ("__classdict__" : Str)) = false := by decide)
    (he : starEach (e :: es) X.env = (false, eval e X.env) :: starEach es X.env := by rfl) (hpl : (backTo pos (starEach es X.env)).any (·.1) = false := by rfl)
    (ht : eval (.Call (.Attribute (.Name x p1) m' apos) (e :: es) [] pos) X.env = (do
      let ov ← eval (.Name x p1) X.env
      standAt apos.atName
      let (f, first) ← holding [ov] (getMethod ov m' pl)
      callWith pos f first (backTo pos (starEach (e :: es) X.env)) (backToKw pos (keywordEach [] X.env))) := by rfl) :
    XX X t b (.Call (.Attribute (.Name x p1) m' apos) (e :: es) [] pos) Γ Wx := by
  obtain ⟨f, fd, G, hmt, hb⟩ := G.ex
  refine PE.wk (pe_methS (CX := L2N.CX X.prog X.w) (E := WE Wx) (pl := pl) (pe_var (i := j) (by rw [cf.hN]; exact hN) (by rw [cf.hs]; exact hv) hd hcd) (by rw [a.hK]; exact cl) (by rw [a.hK]; exact hmt) (by rw [show L2N.CX X.prog X.w = L2N.CX t.P t.w by rw [a.hP, a.hw]]; exact fn_at a G) (a.hr.mono (Nat.le_of_ble_eq_true hj)) (by rw [a.hK]; exact hb) (fun σ => L2N.passAt tk σ) ha he hpl ht) ?_
  rintro σ H Q ⟨F, ok, kk⟩
  obtain ⟨a', dx, vs, h1, h2, h3⟩ := obj_is ok hΓ hm hk
  refine ⟨_, h1, a', dx, vs, rfl, h2, h3, F, ok, fun ws F1 H1 g1 d1 => ?_⟩
  exact (ok.gr g1).callOX hΓ hpre hpo hmo h1 (fit.ok d1) fun D F' H' hD g ok' => kk D F' H' hD (g1.f.tr g) ok'
theorem xs_try (cf : Cf X N sc mg W) (a : At X t n) (tr : Tr X) (hie : N[ie]? = some er) (hle : sc.names.lookup er = some .local) (hlg : sc.names.lookup ("LessonError" : Str) = some .globalImplicit) (G : ∃ D, NsAt t D)
    (hb : ∀ (Wx : WX) (pn : List (Addr × Obj)) (xe : Value → Shared → Prop), Cf (X.tr pn xe) N sc mg W → At (X.tr pn xe) t n → L2N.Takes (X.tr pn xe) Wx → XX (X.tr pn xe) t b call Γ Wx)
    (hΓe : Γ[ie]? = some .no) (hsw : swapsWith call none ep.line X.env = pure false)
    (hsu : ∀ (a : Addr) (oe : Obj) (D : Addr) (pn : List (Addr × Obj)), NsAt t D → L2N.Zn (.ref D) none oe → (∃ vs, oe.data = .fields vs) → PSs (X.suite a ((a, oe) :: pn)) (b₀ :: suite) (tSu X.K b rl Γ ie a (Py.enc r) Γ')) :
    XS X b rl (.Try (.Expr call ep :: rest) [.ExceptHandler (some (.Name "LessonError" np)) (some er) (b₀ :: suite) pos'] [] [] pos) Γ (some r) Γ' := by
  obtain ⟨D0, N0⟩ := G
  obtain ⟨L, hL, _⟩ := N0.les
  refine PS.wk (L2N.ps_try_as (i := ie) (tb := fun W => tX t X.K b Γ W |> fun te D σ H => te σ H fun _ H1 => D.nx σ H1) (ts := fun a cls d D σ H => ∃ Dn, NsAt t Dn ∧ cls = .ref Dn ∧ d = none ∧ tSu X.K b rl Γ ie a (Py.enc r) Γ' D σ H) (Wout := fun _ _ _ _ => False) (c := .ref L)
    tr.st tr.fr (by rw [cf.hN]; exact cf.nd) (by rw [cf.hN]; exact hie) (show X.env.scope.names.lookup er = _ by rw [cf.hs]; exact hle) ⟨show X.env.scope.names.lookup _ = _ by rw [cf.hs]; exact hlg, by decide +kernel, .inl (by rw [a.hm]; exact hL)⟩ takes0N
    (fun W pn xe tk pa => ?_) (fun a1 oe cls d pn hz hf => ⟨fun pins s σ H D I h => ?_⟩)) ?_
  · refine PSs.wk (pss_cons (ps_expr (hb W pn xe ⟨cf.hN, cf.hs, cf.hm, cf.nd, cf.calm, pa, cf.un, cf.fn⟩ ⟨a.hP, a.hw, a.hK, a.hm, a.hb, a.hr⟩ tk) hsw) pss_never) fun D σ H h => ?_
    obtain ⟨F, ok, kk⟩ := h
    exact ⟨F, ok, kk⟩
  · obtain ⟨Dn, hD, rfl, rfl, h⟩ := h
    exact (hsu a1 oe Dn pn hD hz hf).run _ _ _ _ _ I h
  · rintro D σ H ⟨F, ok, kk⟩
    refine ⟨F, ok, fun D1 F' H' hD g ok' => ?_⟩
    obtain ⟨L', hL', hx⟩ := hD.les
    rw [hL] at hL'
    cases hL'
    rw [← a.hK] at hx
    refine ⟨true, hx, fun _ a1 ha1 => ⟨D1, hD, rfl, rfl, F', ok'.setN ie _, ?_, tS_some (Γ' := Γ') kk rfl g⟩, fun z => by cases z⟩
    have hlt : ie < σ.length := by
      have h1 := ok'.len
      have h2 := (List.getElem?_eq_some_iff.mp hΓe).1
      omega
    rw [List.getElem?_set_self hlt]
/-- return isinstance(e, NoSet) -/
theorem su_ret {oe : Obj} {a1 : Addr} {pn : List (Addr × Obj)} {rp : Pos} {Γr : List En} (cf : Cf X N sc mg W) (a : At X t n) (hie : N[ie]? = some er) (hle : sc.names.lookup er = some .local) (hg : sc.names.lookup ("NoSet" : Str) = some .globalImplicit) (hgi : sc.names.lookup ("isinstance" : Str) = some .globalImplicit) (hmi : mg "isinstance" = none)
    (hD : NsAt t D) (hz : L2N.Zn (.ref D) none oe) (hf : ∃ vs, oe.data = .fields vs) (hR : b.R = Γr) (s : Wk (Γ.set ie .no) Γr) (hde : (er == ("__debug__" : Str)) = false := by decide) (hcd : (er == ("__classdict__" : Str)) = false := by decide) :
    PSs (X.suite a1 ((a1, oe) :: pn)) [.Return (some (.Call (.Name "isinstance" pp) [.Name er p1, .Name "NoSet" p2] [] pos)) rp] (tSu X.K b rl Γ ie a1 (Py.enc true) Γ') := by
  have ec : ExcC X.K D := by rw [a.hK]; exact hD.ec
  refine PSs.wk (pss_cons (ps_ret (pe_callB (call_isE (X := X) ec hz.zc hf) (show X.env.scope.names.lookup _ = _ by rw [cf.hs]; exact hgi) (show X.mg _ = _ by rw [cf.hm]; exact hmi) bt_isinstance
    (pa_cons (pe_var (i := ie) (show X.N[ie]? = _ by rw [cf.hN]; exact hie) (show Vis X.env.scope er by rw [cf.hs]; exact .inl hle) hde hcd) (pa_cons (pe_glob (v := .ref D) (u := .ref D) (show X.env.scope.names.lookup _ = _ by rw [cf.hs]; exact hg) (show X.mg _ = _ by rw [a.hm]; exact hD.mg) rfl (by decide +kernel)) pa_nil)))) pss_never) ?_
  rintro Dd σ H ⟨F, ok, hσ, kk⟩
  refine ⟨_, hσ, .ref D, .ref D, true, rfl, fun u hu => hu, by rw [a.hK]; exact hD.kit, ?_⟩
  exact kk (.bl true) σ F H (Ex.rf F) (hR ▸ s _ _ _ _ _ ok) (.bl true)
end
end Zk

namespace Zk
open PySem PySem.Spec PyProof.Rows L2

/-! ### an object whose fields are new since the entry -/
def objRf (P : Program) (w : World) (C : Addr) (s : Os) : Res := ⟨fun _ B F H v A => ObjI P w C s (sel2 B F true) H v A, fun h e hA => h.mono (sel2_mo e true) hA⟩
theorem ObjI.bare {P : Program} {w : World} {C : Addr} {o1 : Option (V × Addr)} {F F2 H : Hp} {v : V} {A : Addr → Prop} (h : ObjI P w C ⟨[], none, o1, none⟩ F H v A) : ObjI P w C ⟨[], none, o1, none⟩ F2 H v A := by
  obtain ⟨a, dx, vs, h1, h2, h3, h4, h5, h6, h7, h8⟩ := h
  have e : vs = [] := by
    cases vs with
    | nil => rfl
    | cons q r => cases h4
  subst e
  exact ⟨a, dx, [], h1, h2, h3, h4, .nil, h6, h7, h8⟩
theorem start_envF {t : Tx} {C : Addr} {N : List Str} {R : List En} {K : PySem.W.Frag} {H F : Hp} {vs : List V} {v : V} {A : Addr → Prop} {Γ : List En} {o1 : Option (V × Addr)} (e : Ex F H) (a : ArgOk F vs Γ) (hm : ObjI t.P t.w C ⟨[], none, o1, none⟩ F H v A) (hA : ∀ l, A l → H l ≠ none ∧ F l = none) (hN : Γ.length + 1 ≤ N.length) :
    EnvOk K ⟨hole A H, F, R⟩ F H (L2.start N (v :: vs)) (.res (objRf t.P t.w C ⟨[], none, o1, none⟩) :: Γ ++ List.replicate (N.length - (Γ.length + 1)) .no) := by
  have h := start_envO (t := t) (N := N) (R := R) (K := K) e a hm hA hN
  obtain ⟨fp, oa⟩ := h.get
  have h2 := oa.re (j := 0) (r' := objRf t.P t.w C ⟨[], none, o1, none⟩) rfl fun v hv hr => ObjI.bare (P := t.P) (w := t.w) hr
  exact h2.ok
def spNF {ι : Type} (P : Program) (w : World) (C : Addr) (ins : ι → List En) (post : ι → Os) : Sp := fun vs H Q _ => ∃ (F : Hp) (i : ι) (p dx : Addr) (ws : List V), vs = .ref p :: ws ∧ p ≠ dx ∧ Ex F H ∧ ArgOk F ws (ins i) ∧ H p = some (.ins C dx []) ∧ H dx = some (.own p) ∧ F p = none ∧ F dx = none ∧
  ∀ (F' H' : Hp) (A : Addr → Prop), Ex F F' → Ex F' H' → (∀ l o, l ≠ p → l ≠ dx → H l = some o → H' l = some o) → (∀ l, H l ≠ none → F' l = F l) → (∀ l, A l → H' l ≠ none ∧ F' l = none ∧ (l = p ∨ l = dx ∨ H l = none)) → ObjI P w C (post i) (sel2 H F' true) H' (.ref p) A → Q .non H'
section
variable {X : Cx} {t : Tx} {b : Bs} {N ps : List Str} {sc : Scope} {mg : Str → Option Value} {W : Str → Bool} {Γ Γ' Γ1 Γ2 : List En} {k k' rl : Bool} {lv la lb lc : Lv} {pos pos' pp apos p1 dpos : Pos} {e e1 e2 o : Expr} {es : List Expr} {n j m : Nat} {x y f : Str} {C : Addr} {s : Os}
variable {α β γ : Type} [ia : Py α] [ib : Py β] [ic : Py γ] {p : α} {q : β}
theorem xs_ofldF (cf : Cf X N sc mg W) (a : At X t n) (cl : Cls t.K C) (no : NoAttr t.K C f) (hN : N[j]? = some x) (hv : Vis sc x) (hΓ : Γ[j]? = some (.res (objRf t.P t.w C s))) (he : XE X b e Γ (.st true) p) (hm : s.mo = none ∨ f ∈ s.fs.map (·.1)) (hz : (putD f (Py.enc p) s.fs).length ≤ 100)
    (hs : swapsWith e (some (.Attribute (.Name x p1) f pos')) pos.line X.env = pure false := by rfl) (hd : (x == ("__debug__" : Str)) = false := by decide) (hcd : (x == ("__classdict__" : Str)) = false := by decide) :
    XS X b rl (.Assign [.Attribute (.Name x p1) f pos'] e pos) Γ (none : Option γ) (Γ.set j (.res (objRf t.P t.w C { s with fs := putD f (Py.enc p) s.fs }))) := by
  refine PS.wk (ps_fld (pe_var (i := j) (by rw [cf.hN]; exact hN) (by rw [cf.hs]; exact hv) hd hcd) he hs) fun D σ H ⟨F, ok, kk⟩ => ⟨F, ok, fun y F1 H1 g1 d1 => ?_⟩
  obtain ⟨fp, oa⟩ := (ok.gr g1).get
  obtain ⟨o, ho, v, rfl, hI⟩ := oa.sl j _ hΓ
  have hI' := hI
  obtain ⟨a', dx, vs, rfl, h2, h3, h4, h5, h6, h7, h8⟩ := hI
  obtain ⟨i1, i2, i3⟩ := put_at (f := f) d1 h4 h5
  have hvl : vs.length = s.fs.length := by rw [← List.length_map (f := (·.1)), h4, List.length_map]
  have fin : ∀ (vs2 : List (Str × V)), H1 a' = some (.ins C dx vs2) → vs2.length < 1000 → fp j a' → (ObjI t.P t.w C { s with fs := putD f (Py.enc p) s.fs } (sel2 b.B F1 true) (upd H1 a' (.ins C dx (putF f y vs2))) (.ref a') (fp j)) →
      ∃ x_1, σ[j]? = some (some x_1) ∧ ∃ a C' dx fs, x_1 = V.ref a ∧ H1 a = some (.ins C' dx fs) ∧ Cls X.K C' ∧ NoAttr X.K C' f ∧ fs.length < 1000 ∧ D.nx σ (upd H1 a (.ins C' dx (putF f y fs))) := fun vs2 hA hl2 hfa hO => by
    refine ⟨_, ho, a', C, dx, vs2, rfl, hA, by rw [a.hK]; exact cl, by rw [a.hK]; exact no, hl2, kk σ F1 _ g1.f ?_⟩
    refine (oa.mut (r' := objRf t.P t.w C { s with fs := putD f (Py.enc p) s.fs }) hΓ (H' := upd H1 a' (.ins C dx (putF f y vs2))) (fun l hl => upd_ne fun z => hl (z ▸ hfa)) (fun l hl => ?_) fun w hw => ?_).ok
    · by_cases z : l = a'
      · subst z; rw [upd_same]; exact fun q => by cases q
      · rw [upd_ne z]; exact (oa.ow j l hl).1
    · rw [ho] at hw
      cases hw
      exact hO
  cases hq : s.mo with
  | none =>
    rw [hq] at h8
    refine fin vs h8.1 (by omega) ((h8.2 a').mpr (.inl rfl)) ⟨a', dx, putF f y vs, rfl, h2, by rw [upd_ne (Ne.symm h2)]; exact h3, i1, i2, hz, h7, ?_⟩
    show (match s.mo with | none => _ | some m => _)
    rw [hq]
    exact ⟨upd_same, h8.2⟩
  | some mm =>
    rw [hq] at h8
    obtain ⟨d, x0, x1, x2, x3, x4, x5⟩ := h8
    have hmem : f ∈ s.fs.map (·.1) := by
      rcases hm with z | z
      · rw [hq] at z; cases z
      · exact z
    refine fin (vs ++ [(("known" : Str), V.ref d)]) x1 (by rw [List.length_append]; simp; omega) ((x3 a').mpr (.inl rfl)) ⟨a', dx, putF f y vs, rfl, h2, by rw [upd_ne (Ne.symm h2)]; exact h3, i1, i2, hz, h7, ?_⟩
    show (match s.mo with | none => _ | some m => _)
    rw [hq]
    rw [i3 hmem]
    exact ⟨d, x0, upd_same, x2.mono (Ex.rf _) fun l o hl ho => by
      have hl : l = d := hl
      subst hl
      rw [upd_ne x4]
      exact ho, x3, x4, x5⟩
theorem xs_omemF (cf : Cf X N sc mg W) (a : At X t n) (cl : Cls t.K C) (no : NoAttr t.K C "known") (hN : N[j]? = some x) (hv : Vis sc x) {fs : List (Str × PyData)} {o1 : Option (V × Addr)} (hΓ : Γ[j]? = some (.res (objRf t.P t.w C ⟨fs, none, o1, none⟩))) (g : List (List Int) → Int) (S0 : List (List Int)) (hz : S0.length ≤ 16) (hk : ("known" : Str) ∉ fs.map (·.1))
    (hs : swapsWith (.Dict [] [] dpos) (some (.Attribute (.Name x p1) "known" pos')) pos.line X.env = pure false := by rfl) (hd : (x == ("__debug__" : Str)) = false := by decide) (hcd : (x == ("__classdict__" : Str)) = false := by decide) :
    XS X b rl (.Assign [.Attribute (.Name x p1) "known" pos'] (.Dict [] [] dpos) pos) Γ (none : Option γ) (Γ.set j (.res (objRf t.P t.w C ⟨fs, some (g, S0), o1, none⟩))) := by
  refine PS.wk (ps_fld (pe_var (i := j) (by rw [cf.hN]; exact hN) (by rw [cf.hs]; exact hv) hd hcd) pe_mnew hs) fun D σ H ⟨F, ok, kk⟩ d hd' hn => ?_
  obtain ⟨fp, oa⟩ := ok.get
  obtain ⟨o, ho, v, rfl, hI⟩ := oa.sl j _ hΓ
  obtain ⟨a', dx, vs, rfl, h2, h3, h4, h5, h6, h7, h8a, h8b⟩ := hI
  have hFd : F d = none := ok.fr.h.no hd'
  have hda : d ≠ a' := fun z => by rw [z, h8a] at hd'; cases hd'
  have hdd : d ≠ dx := fun z => by rw [z, h3] at hd'; cases hd'
  have hputs : ∀ (vs : List (Str × V)), ("known" : Str) ∉ vs.map (·.1) → putF "known" (.ref d) vs = vs ++ [(("known" : Str), V.ref d)] := by
    intro vs
    induction vs with
    | nil => intro _; rfl
    | cons q r ih =>
      intro hq
      simp only [List.map_cons, List.mem_cons, not_or] at hq
      show (if q.1 = "known" then (q.1, V.ref d) :: r else (q.1, q.2) :: putF "known" (.ref d) r) = _
      rw [if_neg (fun z => hq.1 z.symm), ih hq.2]
      rfl
  have hvl : vs.length = fs.length := by rw [← List.length_map (f := (·.1)), h4, List.length_map]
  let H1 := upd H d (.ext (memF X.prog X.w d []))
  have e1 : H1 a' = some (.ins C dx vs) := by show upd H d _ a' = _; rw [upd_ne (Ne.symm hda)]; exact h8a
  refine ⟨_, ho, a', C, dx, vs, rfl, e1, by rw [a.hK]; exact cl, by rw [a.hK]; exact no, by have h6 : fs.length ≤ 100 := h6; omega, ?_⟩
  rw [hputs vs (by rw [h4]; exact hk)]
  refine kk σ F _ (Ex.rf F) ?_
  -- the new object's place joins the slot's region
  have fr : Frz b F (upd H1 a' (.ins C dx (vs ++ [(("known" : Str), V.ref d)]))) := by
    have nB : ∀ l, fp j l → b.B l = none := fun l hl => (oa.ow j l hl).2.2
    refine ⟨ok.fr.f, fun l u q => ?_, fun l u q => ?_, ok.fr.n⟩
    · have hl := ok.fr.h l u q
      rw [upd_ne (fun z => by rw [z, (oa.ow j a' ((h8b a').mpr (.inl rfl))).2.1] at q; cases q)]
      show upd H d _ l = _
      rw [upd_ne (fun z => by rw [z, hFd] at q; cases q)]
      exact hl
    · rw [upd_ne (fun z => by rw [z, nB a' ((h8b a').mpr (.inl rfl))] at q; cases q)]
      show upd H d _ l = _
      rw [upd_ne (fun z => by rw [z, ok.fr.b.no hd'] at q; cases q)]
      exact ok.fr.b l u q
  have keep : ∀ l u, l ≠ a' → H l = some u → (upd H1 a' (.ins C dx (vs ++ [(("known" : Str), V.ref d)]))) l = some u := fun l u hl q => by
    rw [upd_ne hl]
    show upd H d _ l = _
    rw [upd_ne (fun z => by rw [z, hd'] at q; cases q)]
    exact q
  obtain ⟨_, len, dj, ow, sl⟩ := oa
  refine ⟨fr, by simpa using len, fun i l => (i = j ∧ l = d) ∨ fp i l, fun i i' l h h' => ?_, fun i l h => ?_, fun i en he => ?_⟩
  · rcases h with ⟨rfl, rfl⟩ | h <;> rcases h' with ⟨rfl, h'⟩ | h'
    · rfl
    · exact absurd hd' (ow i' _ h').1
    · subst h'
      exact absurd hd' (ow i _ h).1
    · exact dj i i' l h h'
  · rcases h with ⟨rfl, rfl⟩ | h
    · refine ⟨?_, hFd, ok.fr.b.no hd'⟩
      rw [upd_ne hda]
      show upd H l _ l ≠ none
      rw [upd_same]
      exact fun z => by cases z
    · obtain ⟨q1, q2, q3⟩ := ow i l h
      refine ⟨?_, q2, q3⟩
      by_cases z : l = a'
      · subst z; rw [upd_same]; exact fun z => by cases z
      · cases q : H l with
        | none => exact absurd q q1
        | some u => rw [keep l u z q]; exact fun z => by cases z
  · by_cases z : j = i
    · subst z
      have hjl : j < Γ.length := by simpa using (List.getElem?_eq_some_iff.mp he).1
      rw [List.getElem?_set_self hjl] at he
      cases he
      refine ⟨_, ho, _, rfl, a', dx, vs, rfl, h2, ?_, h4, h5, h6, h7, d, fun q hq => (by cases hq), upd_same, ?_, fun l => ?_, hda, hdd⟩
      · exact keep dx _ (Ne.symm h2) h3
      · have m := memI_new (P := X.prog) (w := X.w) (g := g) (S0 := S0) (F := sel2 b.B F true) (H := H) hn hz
        rw [a.hP, a.hw] at m
        refine m.mono (Ex.rf _) fun l u hl hu => ?_
        have hl : l = d := hl
        subst hl
        rw [upd_ne hda]
        show upd H l _ l = _
        rw [a.hP, a.hw]
        exact hu
      · constructor
        · rintro (⟨_, rfl⟩ | h)
          · exact .inr (.inr rfl)
          · rcases (h8b l).mp h with r | r
            · exact .inl r
            · exact .inr (.inl r)
        · rintro (r | r | r)
          · exact .inr ((h8b l).mpr (.inl r))
          · exact .inr ((h8b l).mpr (.inr r))
          · exact .inl ⟨rfl, r⟩
    · rw [List.getElem?_set_ne z] at he
      obtain ⟨o, a1, c⟩ := sl i en he
      have same : (fun l => (i = j ∧ l = d) ∨ fp i l) = fp i := by
        funext l
        refine propext ⟨fun h => ?_, .inr⟩
        rcases h with ⟨rfl, _⟩ | h
        · exact absurd rfl z
        · exact h
      refine ⟨o, a1, ?_⟩
      show Sl X.K b F _ o en (fun l => (i = j ∧ l = d) ∨ fp i l)
      rw [same]
      exact c.gr (Ex.rf F) fun l u hl q => keep l u (fun y => z (dj j i l (y ▸ (h8b a').mpr (.inl rfl)) hl)) q
end
section
variable {X : Cx} {t : Tx} {b : Bs} {N ps : List Str} {sc : Scope} {mg : Str → Option Value} {W : Str → Bool} {Γ Γ' Γ1 Γ2 : List En} {k k' rl : Bool} {lv la lb lc : Lv} {pos pos' pp apos p1 dpos : Pos} {e e1 e2 o : Expr} {es : List Expr} {n j m : Nat} {x y f : Str} {C : Addr} {s : Fo} {o1 : Option (V × Addr)} {o2 : Option V}
variable {α β γ : Type} [ia : Py α] [ib : Py β] [ic : Py γ] {p : α} {q : β} {ι : Type} {ins : ι → List En} {mm : ι → Mm} {out : ι → PyData}
theorem xs_fo1F {n' : Int} (cf : Cf X N sc mg W) (a : At X t n) (A : FoAt t C) (hN : N[j]? = some x) (hv : Vis sc x) (hΓ : Γ[j]? = some (.res (objRf t.P t.w C ⟨[], none, o1, none⟩))) (he : XE X b e Γ (.st true) n')
    (hs : swapsWith e (some (.Attribute (.Name x p1) "points" pos')) pos.line X.env = pure false := by rfl) (hd : (x == ("__debug__" : Str)) = false := by decide) (hcd : (x == ("__classdict__" : Str)) = false := by decide) :
    XS X b rl (.Assign [.Attribute (.Name x p1) "points" pos'] e pos) Γ (none : Option γ) (Γ.set j (.res (objRf t.P t.w C ⟨[("points", .int n')], none, o1, none⟩))) :=
  xs_ofldF (f := "points") (s := ⟨[], none, o1, none⟩) cf a A.cl A.np hN hv hΓ he (.inl rfl) (by show 1 ≤ 100; decide) hs hd hcd
theorem xs_fo2F {n' : Int} {S' : List (List Int)} (cf : Cf X N sc mg W) (a : At X t n) (A : FoAt t C) (hN : N[j]? = some x) (hv : Vis sc x) (hΓ : Γ[j]? = some (.res (objRf t.P t.w C ⟨[("points", .int n')], none, o1, none⟩))) (he : XE X b e Γ (.st true) S')
    (hs : swapsWith e (some (.Attribute (.Name x p1) "sets" pos')) pos.line X.env = pure false := by rfl) (hd : (x == ("__debug__" : Str)) = false := by decide) (hcd : (x == ("__classdict__" : Str)) = false := by decide) :
    XS X b rl (.Assign [.Attribute (.Name x p1) "sets" pos'] e pos) Γ (none : Option γ) (Γ.set j (.res (objRf t.P t.w C ⟨[("points", .int n'), ("sets", Py.enc S')], none, o1, none⟩))) := by
  have h1 : ¬ ("points" : Str) = "sets" := by decide +kernel
  have e1 : putD "sets" (Py.enc S') ([(("points" : Str), PyData.int n')]) = ([(("points" : Str), PyData.int n'), (("sets" : Str), Py.enc S')] : List (Str × PyData)) := by simp only [putD, h1, if_false]
  have h := xs_ofldF (γ := γ) (rl := rl) (pos := pos) (f := "sets") (s := ⟨[("points", .int n')], none, o1, none⟩) cf a A.cl A.ns hN hv hΓ he (.inl rfl) (by rw [e1]; show 2 ≤ 100; decide) hs hd hcd
  rw [e1] at h
  exact h
theorem xs_fo3F {n' w' : Int} {S' : List (List Int)} (cf : Cf X N sc mg W) (a : At X t n) (A : FoAt t C) (hN : N[j]? = some x) (hv : Vis sc x) (hΓ : Γ[j]? = some (.res (objRf t.P t.w C ⟨[("points", .int n'), ("sets", Py.enc S')], none, o1, none⟩))) (he : XE X b e Γ (.st true) w')
    (hs : swapsWith e (some (.Attribute (.Name x p1) "wrong" pos')) pos.line X.env = pure false := by rfl) (hd : (x == ("__debug__" : Str)) = false := by decide) (hcd : (x == ("__classdict__" : Str)) = false := by decide) :
    XS X b rl (.Assign [.Attribute (.Name x p1) "wrong" pos'] e pos) Γ (none : Option γ) (Γ.set j (.res (objRf t.P t.w C ⟨[("points", .int n'), ("sets", Py.enc S'), ("wrong", .int w')], none, o1, none⟩))) := by
  have h1 : ¬ ("points" : Str) = "wrong" := by decide +kernel
  have h2 : ¬ ("sets" : Str) = "wrong" := by decide +kernel
  have e1 : putD "wrong" (PyData.int w') ([(("points" : Str), PyData.int n'), (("sets" : Str), Py.enc S')]) = ([(("points" : Str), PyData.int n'), (("sets" : Str), Py.enc S'), (("wrong" : Str), PyData.int w')] : List (Str × PyData)) := by simp only [putD, h1, h2, if_false]
  have h := xs_ofldF (γ := γ) (rl := rl) (pos := pos) (f := "wrong") (s := ⟨[("points", .int n'), ("sets", Py.enc S')], none, o1, none⟩) cf a A.cl A.nw hN hv hΓ he (.inl rfl) (by rw [show (Py.enc w' : PyData) = .int w' from rfl, e1]; show 3 ≤ 100; decide) hs hd hcd
  rw [show (Py.enc w' : PyData) = .int w' from rfl, e1] at h
  exact h
theorem xs_fo4F {n' w' : Int} {S' S0 : List (List Int)} (cf : Cf X N sc mg W) (a : At X t n) (A : FoAt t C) (hN : N[j]? = some x) (hv : Vis sc x) (hΓ : Γ[j]? = some (.res (objRf t.P t.w C ⟨[("points", .int n'), ("sets", Py.enc S'), ("wrong", .int w')], none, o1, none⟩))) (hz : S0.length ≤ 16)
    (hs : swapsWith (.Dict [] [] dpos) (some (.Attribute (.Name x p1) "known" pos')) pos.line X.env = pure false := by rfl) (hd : (x == ("__debug__" : Str)) = false := by decide) (hcd : (x == ("__classdict__" : Str)) = false := by decide) :
    XS X b rl (.Assign [.Attribute (.Name x p1) "known" pos'] (.Dict [] [] dpos) pos) Γ (none : Option γ) (Γ.set j (.res (objRf t.P t.w C (foQ ⟨n', S', w', S0⟩ o1 none)))) :=
  xs_omemF cf a A.cl A.nk hN hv hΓ (mM n') S0 hz (by show ("known" : Str) ∉ (["points", "sets", "wrong"] : List Str); decide +kernel) hs hd hcd
end
section
variable {t : Tx} {ι : Type} {rl : Bool} {ins : ι → List En} {pre post : ι → Os} {out : ι → PyData} {N ps : List Str} {k j : Nat} {f C : Addr} {fd : FuncData} {x m q : Str} {st : Stmt}
theorem mk_defF (D : DefI t x C q st) (S : FnScope N ps (defScope st))
    (hb : ∀ (kV doc pm : Value) (an : Option Addr) (cdv ct : Value) (us : List Value), us.length = ps.length → bindArgs (PySem.W.fnOf "__init__" q (defArgs st) (defBody st) (defScope st) .none kV doc pm an cdv ct) ⟨us, []⟩ = pure (ps.zip us))
    (hl : ∀ i, (ins i).length + 1 = ps.length) (hm : ∀ i, (post i).mo.isSome = true ∧ (post i).o1 = none ∧ (post i).o2 = none)
    (body : ∀ (X : Cx) (b : Bs) (i : ι) (v0 : V) (dx : Addr), Cf X N (defScope st) t.mg (fun _ => true) → At X t k → b.R = List.replicate N.length .no →
      PSs X (defBody st) (tS X.K b rl (.res (objRf t.P t.w C ⟨[], none, some (v0, dx), none⟩) :: ins i ++ List.replicate (N.length - ps.length) .no) none (.res (objRf t.P t.w C { post i with o1 := some (v0, dx) }) :: List.replicate (N.length - 1) .no))) :
    MkAt t x C (k + 1) ps (spNF t.P t.w C ins post) := by
  obtain ⟨f, fd, Fn, M⟩ := D.ex
  have hpl : ps.length ≤ N.length := by have := congrArg List.length S.pre; rw [List.length_take] at this; omega
  refine ⟨⟨f, fd, Fn.ok S (fun vs H Q E ⟨F, i, p, dx, ws, e, _, _, a, _⟩ => ?_) (fun cdv Ar outer s H vs Q E hr h => ?_), M, Fn.binds hb⟩, D.mg⟩
  · rw [e, List.length_cons, a.len]
    exact hl i
  obtain ⟨F, i, p, dx, ws, rfl, hne, e, a, hp, hdx, hFp, hFd, kk⟩ := h
  have hO : ObjI t.P t.w C ⟨[], none, some (.ref p, dx), none⟩ F H (.ref p) (fun l => l = p ∨ l = dx) :=
    ⟨p, dx, [], rfl, hne, hdx, rfl, .nil, Nat.zero_le _, fun q hq => (Option.some.inj hq).symm, hp, fun l => Iff.rfl⟩
  have hA : ∀ l, (l = p ∨ l = dx) → H l ≠ none ∧ F l = none := by
    rintro l (rfl | rfl)
    · exact ⟨(fun z => by rw [hp] at z; cases z), hFp⟩
    · exact ⟨(fun z => by rw [hdx] at z; cases z), hFd⟩
  have h := body (cxOf CX0 t.P t.w t.K t.mg t.base N q (defScope st) f cdv Ar outer s H E).nox ⟨hole (fun l => l = p ∨ l = dx) H, F, List.replicate N.length .no⟩ i (.ref p) dx
    ⟨rfl, rfl, rfl, S.nd, rfl, PassesOwn.never, (by have := hr.un; show (Ar.deeper _).units + 65 < _; omega), fun _ _ => .inl rfl⟩ ⟨rfl, rfl, rfl, rfl, rfl, hr⟩ rfl
  have hs := start_envF (t := t) (N := N) (R := List.replicate N.length .no) (K := t.K) e a hO hA (by have := hl i; omega)
  rw [hl i] at hs
  refine ⟨_, h, F, hs, fun σ' F' H' e' ok' => ?_⟩
  obtain ⟨fp, oa⟩ := ok'.get
  obtain ⟨o, ho, v', rfl, hP⟩ := oa.sl 0 _ rfl
  have hP' := hP
  obtain ⟨a1, dx1, vs1, rfl, z2, z3, z4, z5, z6, z7, z8⟩ := hP
  have e1 := z7 _ rfl
  cases e1
  have hin : ∀ l, (l = p ∨ l = dx) → fp 0 l := by
    obtain ⟨m2, hm2⟩ := Option.isSome_iff_exists.mp (hm i).1
    have z8 : (match (post i).mo with | none => H' p = some (.ins C dx vs1) ∧ ∀ l, fp 0 l ↔ (l = p ∨ l = dx) | some m => ∃ d', (∀ q, (post i).o2 = some q → q = .ref d') ∧ H' p = some (.ins C dx (vs1 ++ [(("known" : Str), V.ref d')])) ∧ MemI t.P t.w m.1 m.2 [] (sel2 (hole (fun l => l = p ∨ l = dx) H) F' true) H' (.ref d') (fun l => l = d') ∧ (∀ l, fp 0 l ↔ (l = p ∨ l = dx ∨ l = d')) ∧ d' ≠ p ∧ d' ≠ dx) := z8
    rw [hm2] at z8
    obtain ⟨d1, y0, y1, y2, y3, y4, y5⟩ := z8
    rintro l (rfl | rfl)
    · exact (y3 _).mpr (.inl rfl)
    · exact (y3 _).mpr (.inr (.inl rfl))
  have hpost : ({ post i with o1 := none, o2 := none } : Os) = post i := by
    obtain ⟨_, h1, h2⟩ := hm i
    revert h1 h2
    cases post i with
    | mk fs mo o1 o2 => intro h1 h2; cases h1; cases h2; rfl
  have hQ := (ObjI.unpin (o1 := some (.ref p, dx)) (o2 := (post i).o2) hP' : ObjI t.P t.w C { post i with o1 := none, o2 := none } (sel2 (hole (fun l => l = p ∨ l = dx) H) F' true) H' (.ref p) (fp 0))
  rw [hpost] at hQ
  refine kk F' H' (fp 0) oa.fr.f oa.fr.h (fun l o h1 h2 q => oa.fr.b l o (by show hole (fun l => l = p ∨ l = dx) H l = some o; rw [hole_out (fun z => z.elim h1 h2)]; exact q)) (fun l hl => ?_) (fun l hl => ?_) (hQ.mono (fun l o q => ?_) fun _ _ _ q => q)
  · by_cases z : l = p ∨ l = dx
    · rw [(oa.ow _ l (hin l z)).2.1, (hA l z).2]
    · exact oa.fr.n l (by show hole (fun l => l = p ∨ l = dx) H l ≠ none; rw [hole_out z]; exact hl)
  · obtain ⟨w1, w2, w3⟩ := oa.ow 0 l hl
    refine ⟨w1, w2, ?_⟩
    by_cases z : l = p ∨ l = dx
    · exact z.imp_right .inl
    · have w3 : hole (fun l => l = p ∨ l = dx) H l = none := w3
      rw [hole_out z] at w3
      exact .inr (.inr w3)
  · simp only [sel2] at q ⊢
    by_cases z : l = p ∨ l = dx
    · rw [hole_none z] at q
      have q : nofrz (F' l) = some o := q
      rw [(oa.ow 0 l (hin l z)).2.1] at q
      cases q
    · rw [hole_out z] at q
      exact q
end
/-! ### a new object, nothing of it known elsewhere -/
def tNf (K : PySem.W.Frag) (P : Program) (w : World) (C : Addr) (b : Bs) (Γ : List En) (s : Os) : TE := fun σ H Q => ∃ F, EnvOk K b F H σ Γ ∧ ∀ v A F' H', Grow F H F' H' → (∀ l, A l → H l = none ∧ H' l ≠ none ∧ F' l = none) → ObjI P w C s (sel2 H F' true) H' v A → Q v H'
abbrev XNf (X : Cx) (t : Tx) (C : Addr) (b : Bs) (e : Expr) (Γ : List En) (s : Os) : Prop := PE X e (tNf X.K t.P t.w C b Γ s)
section
variable {X : Cx} {t : Tx} {b : Bs} {N ps : List Str} {sc : Scope} {mg : Str → Option Value} {W : Str → Bool} {Γ Γ' Γ1 Γ2 : List En} {k k' k2 rl : Bool} {lv la lb lc : Lv} {pos pos' pp apos cpos p1 dpos : Pos} {e e1 e2 e3 o tt : Expr} {es : List Expr} {body rest els : List Stmt} {n j m i l : Nat} {x y z f : Str} {C : Addr} {s : Os}
variable {α β γ δ : Type} [ia : Py α] [ib : Py β] [ic : Py γ] [idl : Py δ] {p : α} {q : β} {ι : Type} {ins : ι → List En} {pre post : ι → Os} {out : ι → PyData} {c c1 c2 : Bool} {oo : Option β}
theorem xo_makeF {ds : List (Lv × PyData)} (c : Cf X N sc mg W) (a : At X t n) (G : MkAt t x C m ps (spNF t.P t.w C ins post)) (hk : Nat.ble (m + 1) n = true) (hg : sc.names.lookup x = some .globalImplicit) (i : ι)
    (ha : XA X b (e :: es) Γ ds) (fit : Fit ds (ins i)) (hdb : (x == ("__debug__" : Str)) = false := by decide) (he : starEach (e :: es) X.env = (false, eval e X.env) :: starEach es X.env := by rfl) (hpl : (backTo pos (starEach es X.env)).any (·.1) = false := by rfl) :
    XNf X t C b (.Call (.Name x pp) (e :: es) [] pos) Γ (post i) := by
  obtain ⟨f, fd, Fn, M, hb⟩ := G.ex
  refine PE.wk (pe_make (f := f) (C := C) (by rw [a.hK]; exact M) (fn_at a Fn) (a.hr.mono (Nat.le_of_ble_eq_true hk)) (show X.env.scope.names.lookup x = _ by rw [c.hs]; exact hg) (by rw [a.hm]; exact G.mg) (by rw [a.hK]; exact hb) .nil pass0 ha hdb he hpl) ?_
  rintro σ H Q ⟨F, ok, kq⟩
  refine ⟨F, ok, fun vs F1 H1 g1 d1 y dx hy hdx hne => ?_⟩
  have fz := (ok.gr g1).fr
  have hFy : F1 y = none := fz.h.no hy
  have hFd : F1 dx = none := fz.h.no hdx
  let H2 := upd (upd H1 dx (.own y)) y (.ins C dx [])
  have k2 : ∀ l o, H1 l = some o → H2 l = some o := fun l o q => by
    show upd (upd H1 dx (.own y)) y _ l = _
    rw [upd_ne (fun z => by rw [z, hy] at q; cases q), upd_ne (fun z => by rw [z, hdx] at q; cases q)]
    exact q
  refine ⟨F1, i, y, dx, vs, by rw [List.append_nil], Ne.symm hne, fun l o q => k2 l o (fz.h l o q), fit.ok d1, upd_same, by rw [upd_ne hne]; exact upd_same, hFy, hFd, fun F' H' A h1 h2 h3 h4 h5 hI => ⟨rfl, ?_⟩⟩
  refine kq (.ref y) A F' H' (g1.tr ⟨h1, h2, fun l o q => ?_, fun l hl => ?_⟩) (fun l hl => ?_) (hI.mono (sel2_anti fun l o q => k2 l o (g1.b l o q)) fun _ _ _ q => q)
  · exact h3 l o (fun z => by rw [z, hy] at q; cases q) (fun z => by rw [z, hdx] at q; cases q) (k2 l o q)
  · refine h4 l ?_
    obtain ⟨o, ho⟩ := Option.ne_none_iff_exists'.mp hl
    have z := k2 l o ho
    exact fun w => by have z' := w.symm.trans z; cases z'
  · obtain ⟨w1, w2, w3⟩ := h5 l hl
    refine ⟨?_, w1, w2⟩
    have n1 : H1 l = none := by
      rcases w3 with rfl | rfl | w3
      · exact hy
      · exact hdx
      · cases z : H1 l with
        | none => rfl
        | some o => have w4 := w3.symm.trans (k2 l o z); cases w4
    cases z : H l with
    | none => rfl
    | some o => rw [g1.b l o z] at n1; cases n1
theorem xn_of (h : XNf X t C b e Γ s) : XN X b e Γ (objR t.P t.w C s) := PE.wk h fun σ H Q ⟨F, ok, kk⟩ => ⟨F, ok, fun v A F' H' g hA hI => kk v A F' H' g hA (hI.mono (sel2_le true) fun _ _ _ q => q)⟩
open Classical in
theorem xn_lend {ia' : Py α} {a : α} (hj : Γ[j]? = some (.res (@ownD α ia' a))) (h : XNf X t C b e (Γ.set j (.dat α ia' false a)) s) : XNf X t C b e Γ s :=
  PE.wk h fun σ H Q ⟨F, ok, kk⟩ => by
    obtain ⟨Fu, ok', eF⟩ := ok.lend (ia := ia') hj
    refine ⟨Fu, ok', fun v A F' H' g hA hI => kk v A (fun l => if H l = none then F' l else F l) H' ⟨fun l o q => ?_, fun l o q => ?_, g.b, fun l hl => if_neg hl⟩ (fun l hl => ?_) (hI.mono (fun l o q => ?_) fun _ _ _ q => q)⟩
    · have : H l ≠ none := fun z => by rw [ok.fr.h l o q] at z; cases z
      show (if H l = none then F' l else F l) = some o
      rw [if_neg this]; exact q
    · have q : (if H l = none then F' l else F l) = some o := q
      split at q
      · exact g.h l o q
      · exact g.b l o (ok.fr.h l o q)
    · obtain ⟨w1, w2, w3⟩ := hA l hl
      exact ⟨w1, w2, by show (if H l = none then F' l else F l) = none; rw [if_pos w1]; exact w3⟩
    · simp only [sel2] at q ⊢
      cases z : H l with
      | some u => rw [z] at q; cases q
      | none => rw [z] at q; simpa [z] using q

/-! ### methods that only read -/
def objFr (P : Program) (w : World) (C : Addr) (s : Os) : Res := ⟨fun _ _ F _ v _ => ∃ a dx vs r, v = .ref a ∧ F a = some (.ins C dx (vs ++ r)) ∧ vs.map (·.1) = s.fs.map (·.1) ∧ DqAll F (vs.map (·.2)) (s.fs.map (·.2)), fun h e _ => by
  obtain ⟨a, dx, vs, r, h1, h2, h3, h4⟩ := h
  exact ⟨a, dx, vs, r, h1, e _ _ h2, h3, dqa_mo e _ _ h4⟩⟩
theorem ObjI.fr {P : Program} {w : World} {F H : Hp} {v : V} {A : Addr → Prop} (h : ObjI P w C s F H v A) (e : Ex F H) (K : PySem.W.Frag) (B : Hp) : (objFr P w C s).R K B H H v (fun _ => False) := by
  obtain ⟨a, dx, vs, h1, h2, h3, h4, h5, h6, h7, h8⟩ := h
  cases q : s.mo with
  | none => rw [q] at h8; exact ⟨a, dx, vs, [], h1, by rw [List.append_nil]; exact h8.1, h4, dqa_mo e _ _ h5⟩
  | some m => rw [q] at h8; obtain ⟨d, _, x, _⟩ := h8; exact ⟨a, dx, vs, _, h1, x, h4, dqa_mo e _ _ h5⟩
theorem xe_ofldP (cf : Cf X N sc mg W) (a : At X t n) (cl : Cls t.K C) (no : NoAttr t.K C f) (hN : N[j]? = some x) (hv : Vis sc x) (hΓ : Γ[j]? = some (.res (objFr t.P t.w C s))) (hl : s.fs.lookup f = some (Py.enc p))
    (hb : attributeBase (.Name x p1) f X.env (eval (.Name x p1) X.env) = eval (.Name x p1) X.env := by rfl) (hd : (x == ("__debug__" : Str)) = false := by decide) (hcd : (x == ("__classdict__" : Str)) = false := by decide) : XE X b (.Attribute (.Name x p1) f apos) Γ (.st false) p :=
  PE.wk (pe_fld (pe_var (i := j) (by rw [cf.hN]; exact hN) (by rw [cf.hs]; exact hv) hd hcd) hb) fun σ H Q ⟨F, ok, kk⟩ => by
    obtain ⟨fp, oa⟩ := ok.get
    obtain ⟨o, ho, v, rfl, hI⟩ := oa.sl j _ hΓ
    obtain ⟨a', dx, vs, r, rfl, h2, h3, h4⟩ := hI
    obtain ⟨u, hu, du⟩ := fld_at h3 h4 hl r
    exact ⟨_, ho, a', C, dx, _, u, rfl, ok.fr.h _ _ h2, by rw [a.hK]; exact cl, by rw [a.hK]; exact no, hu, kk u F H (Grow.rf ok.fr.h) du⟩
theorem xe_foSP {s : Fo} {o1 : Option (V × Addr)} {o2 : Option V} (cf : Cf X N sc mg W) (a : At X t n) (A : FoAt t C) (hN : N[j]? = some x) (hv : Vis sc x) (hΓ : Γ[j]? = some (.res (objFr t.P t.w C (foQ s o1 o2))))
    (hb : attributeBase (.Name x p1) "sets" X.env (eval (.Name x p1) X.env) = eval (.Name x p1) X.env := by rfl) (hd : (x == ("__debug__" : Str)) = false := by decide) (hcd : (x == ("__classdict__" : Str)) = false := by decide) : XE X b (.Attribute (.Name x p1) "sets" apos) Γ (.st false) s.sets :=
  xe_ofldP (p := s.sets) cf a A.cl A.ns hN hv hΓ (foQ_look s o1 o2).2.1 hb hd hcd
theorem xe_foWP {s : Fo} {o1 : Option (V × Addr)} {o2 : Option V} (cf : Cf X N sc mg W) (a : At X t n) (A : FoAt t C) (hN : N[j]? = some x) (hv : Vis sc x) (hΓ : Γ[j]? = some (.res (objFr t.P t.w C (foQ s o1 o2))))
    (hb : attributeBase (.Name x p1) "wrong" X.env (eval (.Name x p1) X.env) = eval (.Name x p1) X.env := by rfl) (hd : (x == ("__debug__" : Str)) = false := by decide) (hcd : (x == ("__classdict__" : Str)) = false := by decide) : XE X b (.Attribute (.Name x p1) "wrong" apos) Γ (.st false) s.wrong :=
  xe_ofldP (p := s.wrong) cf a A.cl A.nw hN hv hΓ (foQ_look s o1 o2).2.2 hb hd hcd
end
def spOP {ι : Type} (P : Program) (w : World) (C : Addr) (pre : ι → Os) (out : ι → PyData) : Sp := fun vs H Q _ => ∃ F i v A, vs = [v] ∧ Ex F H ∧ ObjI P w C (pre i) F H v A ∧ ∀ u F' H', Grow F H F' H' → Dq (sel2 H F' true) u (out i) → Q u H'
section
variable {t : Tx} {ι : Type} {pre : ι → Os} {out : ι → PyData} {N ps : List Str} {k j : Nat} {C : Addr} {m q : Str} {st : Stmt}
theorem meth_defP (D : DefM t C m q st) (S : FnScope N ["self"] (defScope st))
    (hb : ∀ (kV doc pm : Value) (an : Option Addr) (cdv ct : Value) (us : List Value), us.length = (["self"] : List Str).length → bindArgs (PySem.W.fnOf m q (defArgs st) (defBody st) (defScope st) .none kV doc pm an cdv ct) ⟨us, []⟩ = pure ((["self"] : List Str).zip us))
    (body : ∀ (X : Cx) (b : Bs) (i : ι), Cf X N (defScope st) t.mg (fun _ => true) → At X t k → b.R = List.replicate N.length .no →
      PSs X (defBody st) (tS X.K b true (.res (objFr t.P t.w C (pre i)) :: List.replicate (N.length - 1) .no) (some (out i)) [])) :
    MethAt t C m (k + 1) ["self"] (spOP t.P t.w C pre out) := by
  obtain ⟨f, fd, Fn, hmt⟩ := D.ex
  have hpl : 1 ≤ N.length := by have := congrArg List.length S.pre; rw [List.length_take] at this; simp at this; omega
  refine ⟨f, fd, Fn.ok S (fun vs H Q E ⟨F, i, v, A, e, _⟩ => by rw [e]; rfl) (fun cdv Ar outer s H vs Q E hr h => ?_), hmt, Fn.binds hb⟩
  obtain ⟨F, i, v, A, rfl, e, hO, kk⟩ := h
  have h := body (cxOf CX0 t.P t.w t.K t.mg t.base N q (defScope st) f cdv Ar outer s H E).nox ⟨H, H, List.replicate N.length .no⟩ i
    ⟨rfl, rfl, rfl, S.nd, rfl, PassesOwn.never, (by have := hr.un; show (Ar.deeper _).units + 65 < _; omega), fun _ _ => .inl rfl⟩ ⟨rfl, rfl, rfl, rfl, rfl, hr⟩ rfl
  have hs : EnvOk t.K ⟨H, H, List.replicate N.length .no⟩ H H (L2.start N [v]) (.res (objFr t.P t.w C (pre i)) :: List.replicate (N.length - 1) .no) := by
    refine ⟨⟨Ex.rf H, Ex.rf H, Ex.rf H, fun _ _ => rfl⟩, ?_, fun _ _ => False, fun _ _ _ h => h.elim, fun _ _ h => h.elim, fun i2 en he => ?_⟩
    · unfold L2.start
      simp only [List.length_append, List.length_map, List.length_replicate, List.length_cons, List.length_nil]
      omega
    · unfold L2.start
      cases i2 with
      | zero =>
        have he : some (En.res (objFr t.P t.w C (pre i))) = some en := he
        cases he
        exact ⟨some v, rfl, v, rfl, hO.fr e _ _⟩
      | succ i2 =>
        have he : (List.replicate (N.length - 1) En.no)[i2]? = some en := he
        have hb2 := (List.getElem?_eq_some_iff.mp he).1
        rw [List.length_replicate] at hb2
        rw [List.getElem?_replicate, if_pos hb2] at he
        cases he
        refine ⟨none, ?_, True.intro⟩
        show (List.map some [v] ++ List.replicate (N.length - [v].length) none)[i2 + 1]? = some none
        rw [List.getElem?_append_right (by rw [List.length_map]; simp), List.getElem?_replicate, List.length_map, if_pos (by simp; omega)]
  refine ⟨_, h, H, hs, fun u σ' F' H' e' ok' d' => ?_⟩
  have fr := ok'.fr
  refine kk u (fun l => match H l with | none => F' l | some _ => F l) H' ⟨fun l o q => ?_, fun l o q => ?_, fr.b, fun l hl => ?_⟩ (dq_mo (fun l o q => ?_) _ _ d')
  · show (match H l with | none => F' l | some _ => F l) = some o
    rw [e l o q]
    exact q
  · have q : (match H l with | none => F' l | some _ => F l) = some o := q
    cases z : H l with
    | none => rw [z] at q; exact fr.h l o q
    | some u => rw [z] at q; exact fr.b l o (by show H l = some o; exact e l o q)
  · show (match H l with | none => F' l | some _ => F l) = F l
    cases z : H l with
    | none => exact absurd z hl
    | some u => rfl
  · simp only [sel2] at q ⊢
    cases z : H l with
    | some u => rw [z] at q; cases q
    | none => rw [z] at q; exact q
end
section
variable {X : Cx} {t : Tx} {b : Bs} {N ps : List Str} {sc : Scope} {mg : Str → Option Value} {W : Str → Bool} {Γ Γ' Γ0 Γ1 Γ2 : List En} {k k' k2 rl : Bool} {lv la lb lc : Lv} {pos pos' pp apos cpos p1 dpos px py pz pt pt2 : Pos} {e e1 e2 e3 o tt : Expr} {es : List Expr} {body rest els : List Stmt} {n j m i l kt kt2 : Nat} {x y z f : Str} {C : Addr} {s os : Os} {r : Res}
variable {α β γ δ : Type} [ia : Py α] [ib : Py β] [ic : Py γ] [idl : Py δ] {p : α} {q : β} {ι : Type} {ins : ι → List En} {pre post : ι → Os} {out : ι → PyData} {c c1 c2 : Bool} {oo : Option β}
theorem xd_methP {m' : Str} {pl : Sem Bool} (cf : Cf X N sc mg W) (a : At X t n) (cl : Cls t.K C) (G : MethAt t C m' m ["self"] (spOP t.P t.w C pre out)) (hj : Nat.ble m n = true) (hN : N[j]? = some x) (hv : Vis sc x) (i : ι) (hΓ : Γ[j]? = some (.res (objR t.P t.w C os))) (hpre : os = pre i) (hm : m' ∉ os.fs.map (·.1)) (hk : ¬ m' = "known")
    (hp : out i = Py.enc p := by rfl) (hd : (x == ("__debug__" : Str)) = false := by decide) (hcd : (x == ("__classdict__" : Str)) = false := by decide)
    (ht : eval (.Call (.Attribute (.Name x p1) m' apos) [] [] pos) X.env = (do
      let ov ← eval (.Name x p1) X.env
      standAt apos.atName
      let (f, first) ← holding [ov] (getMethod ov m' pl)
      callWith pos f first (backTo pos (starEach [] X.env)) (backToKw pos (keywordEach [] X.env))) := by rfl) :
    XD X b (.Call (.Attribute (.Name x p1) m' apos) [] [] pos) Γ p := by
  subst hpre
  obtain ⟨f, fd, G, hmt, hb⟩ := G.ex
  refine PE.wk (pe_meth0 (pl := pl) (pe_var (i := j) (by rw [cf.hN]; exact hN) (by rw [cf.hs]; exact hv) hd hcd) (by rw [a.hK]; exact cl) (by rw [a.hK]; exact hmt) (fn_at a G) (a.hr.mono (Nat.le_of_ble_eq_true hj)) (by rw [a.hK]; exact hb) .nil pass0 ht) ?_
  rintro σ H Q ⟨F, ok, kk⟩
  obtain ⟨a', dx, vs, h1, h2, h3⟩ := obj_is ok hΓ hm hk
  obtain ⟨fp, oa⟩ := ok.get
  obtain ⟨o, ho, v', rfl, hI⟩ := oa.sl j _ hΓ
  rw [h1] at ho
  cases ho
  refine ⟨_, h1, a', dx, vs, rfl, h2, h3, F, i, _, fp j, rfl, ok.fr.h, hI, fun u F' H' g d => kk u F' H' g ?_⟩
  rw [hp] at d
  exact d
/-- x, y = all new, data -/
theorem xs_parDE {i j : Nat} (c : Cf X N sc mg W) (hi : N[i]? = some x) (hj : N[j]? = some y) (hij : i ≠ j) (hx : sc.names.lookup x = some .local) (hy : sc.names.lookup y = some .local)
    (h1 : XD X b e1 Γ p) (h2 : XE X b e2 Γ (.st k) q) (hw : swappedStores [.Tuple [.Name x px, .Name y py] kt pt] (.Tuple [e1, e2] kt2 pt2) X.env = pure (some [x, y]))
    (hs1 : starEach [e1, e2] X.env = (false, eval e1 X.env) :: starEach [e2] X.env := by rfl) (hs2 : starEach [e2] X.env = [(false, eval e2 X.env)] := by rfl) :
    XS X b rl (.Assign [.Tuple [.Name x px, .Name y py] kt pt] (.Tuple [e1, e2] kt2 pt2) pos) Γ (none : Option γ) ((Γ.set i (.res (ownD α p))).set j (.dat β ib k q)) :=
  PS.wk (ps_par c.calm (by rw [c.hN]; exact c.nd) (by rw [c.hN]; exact hi) (by rw [c.hN]; exact hj) hij (by rw [c.hs]; exact hx) (by rw [c.hs]; exact hy) (pa_cons h1 (pa_cons h2 pa_nil hs2) hs1) hw rfl) fun D σ H ⟨F, ok, kk⟩ => ⟨F, ok, fun v F1 H1 g1 d1 => by
    have g0 : Grow F H F H1 := ⟨Ex.rf F, ok.fr.h.tr g1.b, g1.b, fun _ _ => rfl⟩
    have hR : (ownD α p).R X.K b.B F H1 v (fun l => H l = none ∧ H1 l ≠ none) := by
      refine dq_mo (fun l o q => ?_) _ _ d1
      simp only [sel2] at q
      cases z : H l with
      | some u => rw [z] at q; cases q
      | none =>
        rw [z] at q
        have q : nofrz (F1 l) = some o := q
        have hl := g1.h l o (nofrz_some q)
        exact reg_mk ⟨z, by rw [hl]; exact fun y => by cases y⟩ hl (nofrz_id q)
    refine ⟨F, ok.gr g0, fun w F2 H2 g2 d2 => ?_⟩
    refine ⟨v, w, rfl, kk _ F2 H2 g2.f ?_⟩
    have r1 := (ok.newR g0 (r := ownD α p) (A := fun l => H l = none ∧ H1 l ≠ none) (fun l hl => ⟨hl.1, hl.2, ok.fr.h.no hl.1⟩) hR i).gr g2
    exact r1.setD d2 j⟩
/-- x, y, z = a new object, data, data -/
theorem xs_par3N {i j l : Nat} (c : Cf X N sc mg W) (hi : N[i]? = some x) (hj : N[j]? = some y) (hl : N[l]? = some z) (hij : i ≠ j) (hil : i ≠ l) (hjl : j ≠ l) (hx : sc.names.lookup x = some .local) (hy : sc.names.lookup y = some .local) (hz : sc.names.lookup z = some .local)
    (h1 : XN X b e1 Γ r) (h2 : XE X b e2 Γ (.st k) p) (h3 : XE X b e3 Γ (.st k') q) (hw : swappedStores [.Tuple [.Name x px, .Name y py, .Name z pz] kt pt] (.Tuple [e1, e2, e3] kt2 pt2) X.env = pure (some [x, y, z]))
    (hs1 : starEach [e1, e2, e3] X.env = (false, eval e1 X.env) :: starEach [e2, e3] X.env := by rfl) (hs2 : starEach [e2, e3] X.env = (false, eval e2 X.env) :: starEach [e3] X.env := by rfl) (hs3 : starEach [e3] X.env = [(false, eval e3 X.env)] := by rfl)
    (hs : swapsWithSole [.Tuple [.Name x px, .Name y py, .Name z pz] kt pt] (.Tuple [e1, e2, e3] kt2 pt2) pos.line X.env = pure false := by rfl) :
    XS X b rl (.Assign [.Tuple [.Name x px, .Name y py, .Name z pz] kt pt] (.Tuple [e1, e2, e3] kt2 pt2) pos) Γ (none : Option γ) (((Γ.set i (.res r)).set j (.dat α ia k p)).set l (.dat β ib k' q)) := by
  refine PS.wk (ps_par3 c.calm (by rw [c.hN]; exact c.nd) (by rw [c.hN]; exact hi) (by rw [c.hN]; exact hj) (by rw [c.hN]; exact hl) hij hil hjl (by rw [c.hs]; exact hx) (by rw [c.hs]; exact hy) (by rw [c.hs]; exact hz) (pa_cons h1 (pa_cons h2 (pa_cons h3 pa_nil hs3) hs2) hs1) hw hs) ?_
  rintro D σ H ⟨F, ok, kk⟩
  refine ⟨F, ok, fun v A F1 H1 g1 hA hr => ⟨F1, ok.gr g1, fun u F2 H2 g2 d2 => ⟨F2, (ok.gr g1).gr g2, fun w F3 H3 g3 d3 => ⟨v, u, w, rfl, ?_⟩⟩⟩⟩
  have ok3 := (((ok.newR g1 hA hr i).gr g2).setD d2 j).gr g3
  exact kk _ F3 _ ((g1.f.tr g2.f).tr g3.f) (ok3.setD d3 l)
theorem swap3 {px pt : Pos} {kt k2 pt2} (c : Cf X N sc mg W) (hk : sc.kind = .function) (hx : sc.names.lookup x = some .local) (hy : sc.names.lookup y = some .local) (hz : sc.names.lookup z = some .local) (hl : (py.line == px.line) = true) (hl2 : (pz.line == px.line) = true) (hxy : (y == x) = false) (hxz : (z == x) = false) (hyz : (z == y) = false)
    (hst : isStar e1 = false ∧ isStar e2 = false ∧ isStar e3 = false) (hf : [e1, e2, e3].all (foldedForSure 8) = false) (hc : [e1, e2, e3].all (constantsAlone 8) = false) :
    swappedStores [.Tuple [.Name x px, .Name y py, .Name z pz] kt pt] (.Tuple [e1, e2, e3] k2 pt2) X.env = pure (some [x, y, z]) := by
  have kx : X.env.kindOf x = some .local := by show X.env.scope.names.lookup x = _; rw [c.hs]; exact hx
  have ky : X.env.kindOf y = some .local := by show X.env.scope.names.lookup y = _; rw [c.hs]; exact hy
  have kz : X.env.kindOf z = some .local := by show X.env.scope.names.lookup z = _; rw [c.hs]; exact hz
  have hb : X.env.blockKind = .function := by unfold Env.blockKind; rw [c.hs, hk]; rfl
  have a1 := notStar e1 hst.1
  have a2 := notStar e2 hst.2.1
  have a3 := notStar e3 hst.2.2
  have hl' := beq_iff_eq.mp hl
  have hl2' := beq_iff_eq.mp hl2
  have hxy' : ¬ y = x := by simpa using hxy
  have hxz' : ¬ z = x := by simpa using hxz
  have hyz' : ¬ z = y := by simpa using hyz
  unfold swappedStores
  simp only [hb, List.any_cons, List.any_nil, a1, a2, a3, hf, hc]
  simp [kx, ky, kz, hl', hl2', hxy, hxz, hyz, Expr.pos, List.eraseDups, List.eraseDupsBy, List.eraseDupsBy.loop, List.filterMap_cons, a1, a2, a3]
  rintro (h | h | h)
  · exact absurd (Eq.trans (Eq.symm a1) h) (by decide)
  · exact absurd (Eq.trans (Eq.symm a2) h) (by decide)
  · exact absurd (Eq.trans (Eq.symm a3) h) (by decide)
theorem xc_wk (h : XC X b e Γ k p Γ1) (s : Wk Γ1 Γ2) : XC X b e Γ k p Γ2 := PE.wk h fun σ H Q ⟨F, ok, kk⟩ => ⟨F, ok, fun v F' H' g ok1 d => kk v F' H' g (s _ _ _ _ _ ok1) d⟩
theorem xc_andW (h1 : XC X b e1 Γ k c1 Γ1) (h2 : c1 = true → XC X b (.BoolOp .And (e2 :: es) pos) Γ1 k' c2 Γ2) (hE : Wk Γ1 Γ2) : XC X b (.BoolOp .And (e1 :: e2 :: es) pos) Γ k' (c1 && c2) Γ2 := by
  cases c1 with
  | true => exact PE.wk (pe_and h1 (h2 rfl)) fun σ H Q ⟨F, ok, kk⟩ => ⟨F, ok, fun v F1 H1 g1 ok1 d1 => ⟨true, dp_bl d1, iteT ⟨F1, ok1, fun u F2 H2 g2 ok2 d2 => kk u F2 H2 (g1.tr g2) ok2 d2⟩⟩⟩
  | false => exact PE.wk (pe_and (tb := fun _ _ _ => False) h1 ⟨fun _ _ _ _ _ _ z => z.elim⟩) fun σ H Q ⟨F, ok, kk⟩ => ⟨F, ok, fun v F1 H1 g1 ok1 d1 => ⟨false, dp_bl d1, iteF (kk _ F1 H1 g1 (hE _ _ _ _ _ ok1) (.bl _))⟩⟩
theorem xb_if0C (ht : XTC X b tt Γ0 c Γ) (hc : c = false) (h2 : XB X b rl rest Γ oo Γ2) : XB X b rl (.If tt body [] pos :: rest) Γ0 oo Γ2 := by
  subst hc
  exact PSs.wk (pss_cons (ps_if ht (u := tNext) pss_never pss_nil) h2) fun D σ H ⟨F, ok, kk⟩ => ⟨F, ok, fun F' H' g ok1 => iteF ⟨F', ok1, tS_end kk g⟩⟩
theorem xc_if1 (ht : XTC X b tt Γ c Γ1) (hc : c = true) (ha : XC X b e1 Γ1 k p Γ2) : XC X b (.IfExp tt e1 e2 pos) Γ k p Γ2 := by
  subst hc
  exact PE.wk (pe_ifExp (tb := fun _ _ _ => False) ht ha ⟨fun _ _ _ _ _ _ z => z.elim⟩) fun σ H Q ⟨F, ok, kk⟩ => ⟨F, ok, fun F1 H1 g1 ok1 => iteT ⟨F1, ok1, fun u F2 H2 g2 ok2 d2 => kk u F2 H2 (g1.tr g2) ok2 d2⟩⟩
theorem cv_isN2 {a : α × β} : CmpV X b .Is la lb (Py.enc a) (Py.enc ()) false := ⟨_, op_isN, fun F H v w Q fz d1 d2 kk => by
  obtain ⟨a, vs, rfl, _⟩ := dp_tup (ds := [Py.enc a.1, Py.enc a.2]) d1
  exact ⟨dp_non d2, kk⟩⟩
end
/-! ### x[1][i].append(..), then x[1].append(..), x a pair of one's own -/
def ownTB (n : Nat) : Res where
  R := fun _ B F H v A => ∃ l a v0 vs, v = .ref l ∧ H l = some (.tup [v0, .ref a]) ∧ A l ∧ A a ∧ H a = some (.lst vs) ∧ vs.length ≤ n
  mo := fun h _ hA => by
    obtain ⟨l, a, v0, vs, e, h1, a1, a2, h2, z⟩ := h
    exact ⟨l, a, v0, vs, e, hA l _ a1 h1, a1, a2, hA a _ a2 h2, z⟩
section
variable {X : Cx} {b : Bs} {N : List Str} {sc scope : Scope} {mg : Str → Option Value} {W : Str → Bool} {Γ Γ1 Γ2 Γ3 : List En} {k k' rl : Bool} {lv la lb lc : Lv} {pos pos' pp tpos apos cpos p1 ipos : Pos} {e e1 e2 e3 t tg it elt : Expr} {nn : Nat} {x : Str}
variable {α β γ δ ε : Type} [ia : Py α] [ib : Py β] [ic : Py γ] [id' : Py δ] [ie : Py ε] {P : V → V → Prop} {j : Nat}
theorem xs_appTB1 {ys : List α} {p : β} (cf : Cf X N sc mg W) {a : δ × List ε} (hΓ : Γ[j]? = some (.res (ownD (δ × List ε) a))) (h1 : XR X b j P e1 Γ ys) (he : XE X b e Γ .bor p) (hz : ys.length < 1000000 ∧ ys.length < 1000 ∧ a.2.length < 1000)
    (hbase : attributeBase e1 "append" X.env (eval e1 X.env) = eval e1 X.env := by rfl)
    (hfew : ((backTo cpos (starEach [e] X.env)).all (fun x => !x.1) && (backToKw cpos (keywordEach [] X.env)).all (fun x => x.1.isSome) && decide (([e] : List Expr).length + ([] : List Keyword).length + (if ([] : List Keyword).isEmpty then 0 else 1) < 30)) = true := by rfl)
    (hline : (apos.endLine == cpos.line) = true := by rfl) (hs : starEach [e] X.env = [(false, eval e X.env)] := by rfl) (hsw : swapsWith (.Call (.Attribute e1 "append" apos) [e] [] cpos) none pos.line X.env = pure false := by rfl) :
    XS X b rl (.Expr (.Call (.Attribute e1 "append" apos) [e] [] cpos) pos) Γ (none : Option γ) (Γ.set j (.res (ownTB 1000))) := by
  refine PS.wk (ps_expr (pe_bm PySem.F.plainAttrs_list PySem.F.slot_list_append PySem.F.type_list_append mt_append h1 (xa_cons he xa_nil hs) hbase hfew hline hs) hsw) fun D σ H ⟨F, ok, kk⟩ => ?_
  obtain ⟨fp, oa⟩ := ok.get
  refine ⟨F, fp, oa, fun v v0 F1 H1 g1 hv0 hP d1 => ?_⟩
  obtain ⟨l, vs, rfl, hq, hz', hall⟩ := dp_lst d1
  obtain ⟨hA, hl⟩ := rd_reg hq
  refine ⟨.inl ⟨rfl, vs, .inl (.inl hl)⟩, F1, (oa.gr g1).ok, fun ws F2 H2 g2 d2 => ?_⟩
  obtain ⟨y, rfl, _⟩ := dql1 d2
  have lv : vs.length = ys.length := by rw [dqa_len hall, List.length_map]
  have oa2 := (oa.gr g1).gr g2
  have hl2 := g2.b _ _ hl
  refine ⟨l, vs, y, rfl, rfl, hl2, Nat.lt_of_lt_of_le (by rw [lv]; exact hz.1) (by decide), kk _ F2 _ (g1.f.tr g2.f) ?_⟩
  have m := oa2.mut (r' := ownTB 1000) hΓ (H' := upd H2 l (.lst (vs ++ [y]))) (fun m hm => upd_ne fun z => hm (z ▸ hA)) (fun m hm => by
    by_cases z : m = l
    · subst z; rw [upd_same]; exact fun q => by cases q
    · rw [upd_ne z]; exact (oa2.ow _ _ hm).1) fun w hw => by
      obtain ⟨o, ho, w', rfl, hI⟩ := oa2.sl j _ hΓ
      rw [hw] at ho
      cases ho
      obtain ⟨l0, us, rfl, hq0, _, hall0⟩ := dp_tup (ds := [Py.enc a.1, Py.enc a.2]) hI
      obtain ⟨A0, h0⟩ := rd_reg hq0
      cases hall0 with
      | cons du dr =>
        cases dr with
        | cons dv dn =>
          cases dn
          obtain ⟨a0, vs0, rfl, hqa, _, halla⟩ := dp_lst dv
          obtain ⟨Aa, ha⟩ := rd_reg hqa
          have n0 : l0 ≠ l := fun z => by rw [z, hl2] at h0; cases h0
          have hlen : vs0.length = a.2.length := by rw [dqa_len halla, List.length_map]
          by_cases z : a0 = l
          · subst z
            exact ⟨l0, a0, _, _, rfl, (by rw [upd_ne n0]; exact h0), A0, Aa, upd_same, by rw [List.length_append]; simp; omega⟩
          · exact ⟨l0, a0, _, vs0, rfl, (by rw [upd_ne n0]; exact h0), A0, Aa, (by rw [upd_ne z]; exact ha), by omega⟩
  exact m.ok
theorem xs_appTB2 {p : β} {n2 : Nat} {ip : Pos} (cf : Cf X N sc mg W) (hN : N[j]? = some x) (hv : Vis sc x) (hΓ : Γ[j]? = some (.res (ownTB nn))) (he : XE X b e Γ .bor p) (hz : Nat.blt nn 1000000 = true := by rfl)
    (hix : PlainIx (.Constant (.int 1) n2 ip) := by exact fun _ _ => rfl) (hd : (x == ("__debug__" : Str)) = false := by decide) (hcd : (x == ("__classdict__" : Str)) = false := by decide)
    (hbase : attributeBase (.Subscript (.Name x p1) (.Constant (.int 1) n2 ip) pp) "append" X.env (eval (.Subscript (.Name x p1) (.Constant (.int 1) n2 ip) pp) X.env) = eval (.Subscript (.Name x p1) (.Constant (.int 1) n2 ip) pp) X.env := by rfl)
    (hfew : ((backTo cpos (starEach [e] X.env)).all (fun x => !x.1) && (backToKw cpos (keywordEach [] X.env)).all (fun x => x.1.isSome) && decide (([e] : List Expr).length + ([] : List Keyword).length + (if ([] : List Keyword).isEmpty then 0 else 1) < 30)) = true := by rfl)
    (hline : (apos.endLine == cpos.line) = true := by rfl) (hs : starEach [e] X.env = [(false, eval e X.env)] := by rfl) (hsw : swapsWith (.Call (.Attribute (.Subscript (.Name x p1) (.Constant (.int 1) n2 ip) pp) "append" apos) [e] [] cpos) none pos.line X.env = pure false := by rfl) :
    XS X b rl (.Expr (.Call (.Attribute (.Subscript (.Name x p1) (.Constant (.int 1) n2 ip) pp) "append" apos) [e] [] cpos) pos) Γ (none : Option γ) (Γ.set j .no) := by
  refine PS.wk (ps_expr (pe_bm PySem.F.plainAttrs_list PySem.F.slot_list_append PySem.F.type_list_append mt_append (pe_ix ix_tup (pe_var (i := j) (by rw [cf.hN]; exact hN) (by rw [cf.hs]; exact hv) hd hcd) (pe_int (pos := ip) (j := n2)) hix) (xa_cons he xa_nil hs) hbase hfew hline hs) hsw) fun D σ H ⟨F, ok, kk⟩ => ?_
  obtain ⟨fp, oa⟩ := ok.get
  obtain ⟨o, ho, v, rfl, hI⟩ := oa.sl j _ hΓ
  obtain ⟨l0, l, v0, vs, rfl, h0, A0, hA, hl, hlen⟩ := hI
  refine ⟨_, ho, l0, [v0, .ref l], 1, .ref l, rfl, rfl, .inl (.inl h0), rfl, ?_⟩
  refine ⟨.inl ⟨rfl, vs, .inl (.inl hl)⟩, F, ok, fun ws F2 H2 g2 d2 => ?_⟩
  obtain ⟨y, rfl, _⟩ := dql1 d2
  have oa2 := oa.gr g2
  refine ⟨l, vs, y, rfl, rfl, g2.b _ _ hl, Nat.lt_of_lt_of_le (Nat.lt_of_le_of_lt hlen (by have := hz; simp only [Nat.blt_eq] at this; exact this)) (by decide), kk _ F2 _ g2.f ?_⟩
  have m := oa2.mut (r' := ownN) hΓ (H' := upd H2 l (.lst (vs ++ [y]))) (fun m hm => upd_ne fun z => hm (z ▸ hA)) (fun m hm => by
    by_cases z : m = l
    · subst z; rw [upd_same]; exact fun q => by cases q
    · rw [upd_ne z]; exact (oa2.ow _ _ hm).1) fun _ _ => trivial
  have hset : ∀ (Γ : List En) (j : Nat) (r : Res), Sub (Γ.set j (.res r)) (Γ.set j .no) := fun Γ => by
    induction Γ with
    | nil => intro j r; exact .nil
    | cons e Γ ih =>
      intro j r
      cases j with
      | zero => exact .drop (Sub.rf Γ)
      | succ j => exact .keep (ih j r)
  exact m.ok.sub (hset Γ j _)
end
end Zk

namespace Zk
open PySem PySem.Spec PyProof.Rows L2

section
variable {X : Cx} {t : Tx} {b : Bs} {N ps : List Str} {sc : Scope} {mg : Str → Option Value} {W : Str → Bool} {Γ Γ' : List En} {rl : Bool} {pos pos' pp apos p1 p2 ep np : Pos} {n j m ie io : Nat} {x y f er y1 y2 y3 ot : Str} {C D a1 : Addr} {oe : Obj} {pn : List (Addr × Obj)}
theorem pe_isE {c : Bool} (cf : Cf X N sc mg W) (a : At X t n) (hie : N[ie]? = some er) (hle : sc.names.lookup er = some .local) (hg : sc.names.lookup y = some .globalImplicit) (hgi : sc.names.lookup ("isinstance" : Str) = some .globalImplicit) (hmi : mg "isinstance" = none)
    (hD : NsAt t D) (hk : KitAt t D y c) (hz : L2N.Zn (.ref D) none oe) (hf : ∃ vs, oe.data = .fields vs) (hde : (er == ("__debug__" : Str)) = false := by decide) (hcd : (er == ("__classdict__" : Str)) = false := by decide) (hdy : (y == ("__debug__" : Str)) = false := by decide) :
    PE (X.suite a1 ((a1, oe) :: pn)) (.Call (.Name "isinstance" pp) [.Name er p1, .Name y p2] [] pos) (fun σ H Q => σ[ie]? = some (some (.ref a1)) ∧ Q (.bl c) H) := by
  have ec : ExcC X.K D := by rw [a.hK]; exact hD.ec
  obtain ⟨Cy, hy, hky⟩ := hk
  refine PE.wk (pe_callB (call_isE (X := X) ec hz.zc hf) (show X.env.scope.names.lookup _ = _ by rw [cf.hs]; exact hgi) (show X.mg _ = _ by rw [cf.hm]; exact hmi) bt_isinstance
    (pa_cons (pe_var (i := ie) (show X.N[ie]? = _ by rw [cf.hN]; exact hie) (show Vis X.env.scope er by rw [cf.hs]; exact .inl hle) hde hcd) (pa_cons (pe_glob (v := .ref Cy) (u := .ref Cy) (show X.env.scope.names.lookup _ = _ by rw [cf.hs]; exact hg) (show X.mg _ = _ by rw [a.hm]; exact hy) rfl hdy) pa_nil))) ?_
  rintro σ H Q ⟨hσ, q⟩
  exact ⟨_, hσ, .ref Cy, .ref Cy, c, rfl, fun u hu => hu, by rw [a.hK]; exact hky, q⟩
/-- xs = [isinstance(e, ..), ..]; return isinstance(e, NoSet) and not any(xs) -/
theorem su_any {rp q1 q2 q3 q4 q5 q6 q7 q8 q9 : Pos} {Γr : List En} (cf : Cf X N sc mg W) (a : At X t n) (hie : N[ie]? = some er) (hle : sc.names.lookup er = some .local) (hio : N[io]? = some ot) (hlo : sc.names.lookup ot = some .local) (hne : io ≠ ie) (hW : W ot = true)
    (hg : sc.names.lookup ("NoSet" : Str) = some .globalImplicit) (hg1 : sc.names.lookup y1 = some .globalImplicit) (hg2 : sc.names.lookup y2 = some .globalImplicit) (hg3 : sc.names.lookup y3 = some .globalImplicit) (hgi : sc.names.lookup ("isinstance" : Str) = some .globalImplicit) (hmi : mg "isinstance" = none) (hga : sc.names.lookup ("any" : Str) = some .globalImplicit) (hma : mg "any" = none)
    (hD : NsAt t D) (k1 : KitAt t D y1 false) (k2 : KitAt t D y2 false) (k3 : KitAt t D y3 false) (hz : L2N.Zn (.ref D) none oe) (hf : ∃ vs, oe.data = .fields vs) (hR : b.R = Γr) (s : Wk ((Γ.set ie .no).set io .no) Γr) (hlen : io < Γ.length)
    (hde : (er == ("__debug__" : Str)) = false := by decide) (hcd : (er == ("__classdict__" : Str)) = false := by decide) (hdo : (ot == ("__debug__" : Str)) = false := by decide) (hco : (ot == ("__classdict__" : Str)) = false := by decide)
    (hd1 : (y1 == ("__debug__" : Str)) = false := by decide) (hd2 : (y2 == ("__debug__" : Str)) = false := by decide) (hd3 : (y3 == ("__debug__" : Str)) = false := by decide)
    (hs1 : starEach [.Call (.Name "isinstance" q1) [.Name er q2, .Name y1 q3] [] q4, .Call (.Name "isinstance" q5) [.Name er q6, .Name y2 q7] [] q8, .Call (.Name "isinstance" q9) [.Name er p1, .Name y3 p2] [] pp] X.env = (false, eval (.Call (.Name "isinstance" q1) [.Name er q2, .Name y1 q3] [] q4) X.env) :: starEach [.Call (.Name "isinstance" q5) [.Name er q6, .Name y2 q7] [] q8, .Call (.Name "isinstance" q9) [.Name er p1, .Name y3 p2] [] pp] X.env := by rfl)
    {l1 l2 r1 r2 r3 r4 r5 r6 r7 r8 : Pos} (hsw : swapsWith (.List [.Call (.Name "isinstance" q1) [.Name er q2, .Name y1 q3] [] q4, .Call (.Name "isinstance" q5) [.Name er q6, .Name y2 q7] [] q8, .Call (.Name "isinstance" q9) [.Name er p1, .Name y3 p2] [] pp] l1) (some (.Name ot l2)) pos.line X.env = pure false := by rfl) :
    PSs (X.suite a1 ((a1, oe) :: pn)) [.Assign [.Name ot l2] (.List [.Call (.Name "isinstance" q1) [.Name er q2, .Name y1 q3] [] q4, .Call (.Name "isinstance" q5) [.Name er q6, .Name y2 q7] [] q8, .Call (.Name "isinstance" q9) [.Name er p1, .Name y3 p2] [] pp] l1) pos,
      .Return (some (.BoolOp .And [.Call (.Name "isinstance" r1) [.Name er r2, .Name "NoSet" r3] [] r4, .UnaryOp .Not (.Call (.Name "any" r5) [.Name ot r6] [] r7) r8] apos)) rp] (tSu X.K b rl Γ ie a1 (Py.enc true) Γ') := by
  have hot : L2H.HotC (X.suite a1 ((a1, oe) :: pn)) := by
    obtain ⟨vs, hv⟩ := hf
    exact ⟨(a1, oe), ⟨rfl, vs, hv, hz.2.2 vs hv⟩, List.mem_cons_self⟩
  have kn : KitAt t D "NoSet" true := ⟨D, hD.mg, hD.kit⟩
  refine PSs.wk (pss_cons (ps_set (i := io) (show X.N.Nodup by rw [cf.hN]; exact cf.nd) (show X.N[io]? = _ by rw [cf.hN]; exact hio) (show L2.Loc X.env.scope ot by rw [cf.hs]; exact .inl hlo)
      (pe_lst (pa_cons (pe_isE cf a hie hle hg1 hgi hmi hD k1 hz hf hde hcd hd1) (pa_cons (pe_isE cf a hie hle hg2 hgi hmi hD k2 hz hf hde hcd hd2) (pa_cons (pe_isE cf a hie hle hg3 hgi hmi hD k3 hz hf hde hcd hd3) pa_nil)) hs1)) hsw (cf.fn ot hW))
    (pss_cons (ps_ret (pe_and (pe_isE cf a hie hle hg hgi hmi hD kn hz hf hde hcd (by decide +kernel)) (pe_one (pe_not (pe_callB (cr_anyH hot) (show X.env.scope.names.lookup _ = _ by rw [cf.hs]; exact hga) (show X.mg _ = _ by rw [cf.hm]; exact hma) bt_any
      (pa_cons (pe_var (i := io) (show X.N[io]? = _ by rw [cf.hN]; exact hio) (show Vis X.env.scope ot by rw [cf.hs]; exact .inl hlo) hdo hco) pa_nil)))))) pss_never)) ?_
  rintro Dd σ H ⟨F, ok, hσ, kk⟩
  refine ⟨hσ, hσ, hσ, (by show 3 ≤ sizeLine; rw [sizeLine_eq]; decide), fun p hp => ?_⟩
  have hl : io < σ.length := by
    have h1 := ok.len
    simp only [List.length_set] at h1
    omega
  have hσ' : (σ.set io (some (.ref p)))[ie]? = some (some (.ref a1)) := by rw [List.getElem?_set_ne hne]; exact hσ
  refine ⟨hσ', true, rfl, if_pos rfl ▸ ⟨.ref p, by rw [List.getElem?_set_self hl], p, [false, false, false], rfl, SqL.of upd_same, false, rfl, ?_⟩⟩
  have g4 : Grow F H F (upd H p (.lst [.bl false, .bl false, .bl false])) := ⟨Ex.rf F, ok.fr.h.tr (Ex.nw hp), Ex.nw hp, fun _ _ => rfl⟩
  exact kk (.bl true) (σ.set io (some (V.ref p))) F _ (Ex.rf F) (hR ▸ s _ _ _ _ _ ((ok.setN io (some (V.ref p))).gr g4)) (.bl true)
end
end Zk

namespace G
open PySem PySem.Spec PyProof.Rows L2 Zk
abbrev top (i : Nat) : Stmt := PySem.Challenge.pw_fewlessons_k09_whole_foreteller.main.body.getD i (.Pass ⟨0, 0, 0, 0⟩)
structure Bl (t : Tx) : Prop where
  n_isinstance : t.mg "isinstance" = none
  n_int : t.mg "int" = none
  n_bool : t.mg "bool" = none
  n_list : t.mg "list" = none
  n_all : t.mg "all" = none
  n_range : t.mg "range" = none
  n_len : t.mg "len" = none
  n_tuple : t.mg "tuple" = none
  n_enumerate : t.mg "enumerate" = none
  n_any : t.mg "any" = none
  n_min : t.mg "min" = none
  n_max : t.mg "max" = none
  n_sum : t.mg "sum" = none
  n_abs : t.mg "abs" = none
  n_sorted : t.mg "sorted" = none
  c_MOST_POINTS : ∃ tk, t.mg "MOST_POINTS" = some (.int 8 tk)
  c_MOST_SETS : ∃ tk, t.mg "MOST_SETS" = some (.int 16 tk)
/-! ### is_whole -/
abbrev s_is_whole : Stmt := top 9
abbrev N_is_whole : List Str := ["thing"]
abbrev R_is_whole : List En := [.no]
theorem sc_is_whole : FnScope N_is_whole ["thing"] (defScope s_is_whole) := ⟨rfl, rfl, rfl, by decide +kernel, rfl, by decide +kernel, by decide +kernel⟩
def m_is_whole (thing : Int) : Bool := (true && (!false))
theorem b_is_whole [CA] {X : Cx} {b : Bs} {t : Tx} (cf : Cf X N_is_whole (defScope s_is_whole) t.mg (fun _ => true)) (at_ : At X t 0) (hb : Bl t) (hR : b.R = R_is_whole) (thing : Int) : XB X b false (defBody s_is_whole) [dv false thing] (some (m_is_whole thing)) [] :=
  (xb_ret hR (Wk.sub (.drop .nil)) (xe_andB (xe_isi (lc := .bor) cf (α := Int) (p := thing) (xe_var cf 0 rfl (.inl rfl) rfl) (n := "int") (c := true) (show kitB "int" "int" = some true by decide +kernel) rfl hb.n_int bt_int rfl hb.n_isinstance bt_isinstance) (fun hc1 => (xe_one (xe_notB (lc := (.st false)) (xe_isi (lc := .bor) cf (α := Int) (p := thing) (xe_var cf 0 rfl (.inl rfl) rfl) (n := "bool") (c := false) (show kitB "int" "bool" = some false by decide +kernel) rfl hb.n_bool bt_bool rfl hb.n_isinstance bt_isinstance))))))
abbrev sp_is_whole [CA] : Sp := spI false (fun (i : {p : Int // True}) => [dv false i.1]) (fun i => Py.enc (m_is_whole i.1))
theorem ok_is_whole [CA] {t : Tx} (D : DefAt t "is_whole" s_is_whole) (hb : Bl t) : FnAt t "is_whole" 1 ["thing"] sp_is_whole :=
  fn_def (k := 0) D sc_is_whole (fun _ _ _ _ _ _ us hl => match us, hl with | [_], _ => rfl) (fun _ => rfl) fun X b i cf at_ hR => b_is_whole cf at_ hb hR i.1
/-! ### is_list_of -/
abbrev s_is_list_of : Stmt := top 10
abbrev N_is_list_of : List Str := ["thing", "many", "at", "one"]
abbrev R_is_list_of : List En := [.no, .no, .no, .no]
theorem sc_is_list_of : FnScope N_is_list_of ["thing", "many"] (defScope s_is_list_of) := ⟨rfl, rfl, rfl, by decide +kernel, rfl, by decide +kernel, by decide +kernel⟩
def m_is_list_of (thing : (List Int)) (many : Int) : Bool := (cond ((!true) || (!(((thing.map fun (one_ : Int) => ((m_is_whole one_) && (decide ((0 : Int) ≤ one_) && decide (one_ < many))))).all _root_.id))) false ((((rg (1 : Int) (((thing).length : Int) - (1 : Int)).toNat).map fun (at_ : Int) => (decide ((getL thing (at_ - (1 : Int))) < (getL thing at_))))).all _root_.id))
def q_is_list_of (thing : (List Int)) (many : Int) : Prop := ((!true) || (!(((thing.map fun (one_ : Int) => ((m_is_whole one_) && (decide ((0 : Int) ≤ one_) && decide (one_ < many))))).all _root_.id))) = false → (((-1000000 ≤ (1 : Int) ∧ (1 : Int) ≤ 1000000) ∧ -1000000 ≤ ((thing).length : Int) ∧ ((thing).length : Int) ≤ 1000000) ∧ (∀ at_, at_ ∈ (rg (1 : Int) (((thing).length : Int) - (1 : Int)).toNat) → ((InL thing (at_ - (1 : Int))) ∧ (InL thing at_))))
theorem b_is_list_of [CA] {X : Cx} {b : Bs} {t : Tx} (cf : Cf X N_is_list_of (defScope s_is_list_of) t.mg (fun _ => true)) (at_ : At X t 1) (hb : Bl t) (hR : b.R = R_is_list_of) (G_is_whole : FnAt t "is_whole" 1 ["thing"] sp_is_whole) (thing : (List Int)) (many : Int) (h : q_is_list_of thing many) : XB X b false (defBody s_is_list_of) [dv false thing, dv false many, .no, .no] (some (m_is_list_of thing many)) [] :=
  (xb_ifr (Γ1 := []) (xt_w (xw_or (xt_not (xt_val (xe_isi (lc := .bor) cf (α := (List Int)) (p := thing) (xe_var cf 0 rfl (.inr (.inl rfl)) rfl) (n := "list") (c := true) (show kitB "list" "list" = some true by decide +kernel) rfl hb.n_list bt_list rfl hb.n_isinstance bt_isinstance) (by intro _; rfl))) (fun hc2 => (xw_or1 (xt_not (xt_val (xe_callB cf (lc := .bor) (cl_all cf) rfl hb.n_all bt_all (xa_cons (xe_lcN (own := [("one", 3)]) (js := [3]) (g := fun (one_ : Int) => ((m_is_whole one_) && (decide ((0 : Int) ≤ one_) && decide (one_ < many)))) (k' := true) (Γt := fun one_ => [dv false thing, dv false many, .no, dv false one_]) cf (blkOk_by (by decide +kernel)) (by decide) (xi_list (xe_var cf 0 rfl (.inr (.inl rfl)) rfl)) (fun X1 hX1 one_ hm1 => (xg_name (j := 3) (hX1.cf cf) rfl (.inl rfl) rfl)) (fun X1 hX1 one_ hm1 => (xe_andB (xe_fn (hX1.cf cf) (hX1.to at_) G_is_whole rfl rfl ⟨one_, trivial⟩ (xa_cons (xe_var (hX1.cf cf) 3 rfl (.inl rfl) rfl) xa_nil) (.cons (k := false) .nil)) (fun hc3 => (xe_one (xe_chain (lc := (.st true)) cv_le cv_lt (xe_int (lv := .bor)) (xe_var (hX1.cf cf) 3 rfl (.inl rfl) rfl) (xe_var (hX1.cf cf) 1 rfl (.inr (.inl rfl)) rfl) rfl)))))) xa_nil)) (by intro _; rfl))))))) (fun hc4 => (xb_ret hR (Wk.sub (.drop (.drop (.drop (.drop .nil))))) (xe_bl (lv := (.st false)))))
  (fun hc4 => (xb_ret hR (Wk.sub (.drop (.drop (.drop (.drop .nil))))) (xe_callB cf (lc := (.st false)) (cl_all cf) rfl hb.n_all bt_all (xa_cons (xe_lcN (own := [("at", 2)]) (js := [2]) (g := fun (at_ : Int) => (decide ((getL thing (at_ - (1 : Int))) < (getL thing at_)))) (k' := true) (Γt := fun at_ => [dv false thing, dv false many, dv true at_, .no]) cf (blkOk_by (by decide +kernel)) (by decide) (xi_range2 cf (xe_int (lv := .bor)) (xe_callB cf (lc := .bor) cl_len rfl hb.n_len bt_len (xa_cons (xe_var cf 0 rfl (.inr (.inl rfl)) rfl) xa_nil)) (h hc4).1 rfl hb.n_range) (fun X2 hX2 at_ hm2 => (xg_name (j := 2) (hX2.cf cf) rfl (.inl rfl) rfl)) (fun X2 hX2 at_ hm2 => (xe_cmp (lc := (.st true)) cv_lt (xe_ixL (xe_var (hX2.cf cf) 0 rfl (.inr (.inl rfl)) rfl) (xe_subI (lc := .bor) (xe_var (hX2.cf cf) 2 rfl (.inl rfl) rfl) (xe_int (lv := .bor))) (getL_at ((h hc4).2 at_ hm2).1) (fun _ _ => rfl)) (xe_ixL (xe_var (hX2.cf cf) 0 rfl (.inr (.inl rfl)) rfl) (xe_var (hX2.cf cf) 2 rfl (.inl rfl) rfl) (getL_at ((h hc4).2 at_ hm2).2) (fun _ _ => rfl)) rfl))) xa_nil)))))
abbrev sp_is_list_of [CA] : Sp := spI false (fun (i : {p : ((List Int) × Int) // q_is_list_of p.1 p.2}) => [dv false i.1.1, dv false i.1.2]) (fun i => Py.enc (m_is_list_of i.1.1 i.1.2))
theorem ok_is_list_of [CA] {t : Tx} (D : DefAt t "is_list_of" s_is_list_of) (hb : Bl t) (G_is_whole : FnAt t "is_whole" 1 ["thing"] sp_is_whole) : FnAt t "is_list_of" 2 ["thing", "many"] sp_is_list_of :=
  fn_def (k := 1) D sc_is_list_of (fun _ _ _ _ _ _ us hl => match us, hl with | [_, _], _ => rfl) (fun _ => rfl) fun X b i cf at_ hR => b_is_list_of cf at_ hb hR G_is_whole i.1.1 i.1.2 i.2
/-! ### asked_family -/
abbrev s_asked_family : Stmt := top 11
abbrev N_asked_family : List Str := ["family", "at", "one"]
abbrev R_asked_family : List En := [.no, .no, .no]
theorem sc_asked_family : FnScope N_asked_family ["family"] (defScope s_asked_family) := ⟨rfl, rfl, rfl, by decide +kernel, rfl, by decide +kernel, by decide +kernel⟩
def m_asked_family (family : (Int × (List (List Int)))) : Unit := ()
def q_asked_family (family : (Int × (List (List Int)))) : Prop := (((!true) || ((!decide ((2 : Int) = (2 : Int))) || (!(m_is_whole family.1)))) = false) ∧ ((((!(decide ((1 : Int) ≤ family.1) && decide (family.1 ≤ (8 : Int)))) || (!true)) = false) ∧ (((!(decide ((1 : Int) ≤ ((family.2).length : Int)) && decide (((family.2).length : Int) ≤ (16 : Int)))) = false → (∀ one_, one_ ∈ family.2 → (q_is_list_of one_ family.1))) ∧ ((((!(decide ((1 : Int) ≤ ((family.2).length : Int)) && decide (((family.2).length : Int) ≤ (16 : Int)))) || (!(((family.2.map fun (one_ : (List Int)) => (m_is_list_of one_ family.1))).all _root_.id))) = false) ∧ (((((enumL family.2).map fun (x4_ : (Int × (List Int))) => (memB x4_.2 (cutL family.2 none (some x4_.1))))).any _root_.id) = false))))
theorem b_asked_family [CA] {X : Cx} {b : Bs} {t : Tx} (cf : Cf X N_asked_family (defScope s_asked_family) t.mg (fun _ => true)) (at_ : At X t 2) (hb : Bl t) (hR : b.R = R_asked_family) (G_is_whole : FnAt t "is_whole" 1 ["thing"] sp_is_whole) (G_is_list_of : FnAt t "is_list_of" 2 ["thing", "many"] sp_is_list_of) (family : (Int × (List (List Int)))) (h : q_asked_family family) : XB X b false (defBody s_asked_family) [dv false family, .no, .no] (none : Option Unit) [.no, .no, .no] :=
  (xb_if0 (xt_w (xw_or (xt_not (xt_val (xe_isi (lc := .bor) cf (α := (Int × (List (List Int)))) (p := family) (xe_var cf 0 rfl (.inr (.inl rfl)) rfl) (n := "tuple") (c := true) (show kitB "tuple" "tuple" = some true by decide +kernel) rfl hb.n_tuple bt_tuple rfl hb.n_isinstance bt_isinstance) (by intro _; rfl))) (fun hc5 => (xw_or (xt_cmp (cv_ne (α := Int) (n := 0) cf) (xe_callB cf (lc := .bor) (cl_lenT (us := [_, _]) rfl) rfl hb.n_len bt_len (xa_cons (xe_var cf 0 rfl (.inr (.inl rfl)) rfl) xa_nil)) (xe_int (lv := .bor)) rfl) (fun hc6 => (xw_or1 (xt_not (xt_val (xe_fn cf at_ G_is_whole rfl rfl ⟨family.1, trivial⟩ (xa_cons (xe_sc (xe_fst (xe_var cf 0 rfl (.inr (.inl rfl)) rfl) (fun _ _ => rfl))) xa_nil) (.cons (k := false) .nil)) (by intro _; rfl))))))))) h.1
  (xb_if0 (xt_w (xw_or (xt_not (xt_chain cv_le cv_le (xe_int (lv := .bor)) (xe_fst (xe_var cf 0 rfl (.inr (.inl rfl)) rfl) (fun _ _ => rfl)) (xe_glob cf hb.c_MOST_POINTS (lv := .bor)) rfl)) (fun hc7 => (xw_or1 (xt_not (xt_val (xe_isi (lc := .bor) cf (α := (List (List Int))) (p := family.2) (xe_snd (xe_var cf 0 rfl (.inr (.inl rfl)) rfl) (fun _ _ => rfl)) (n := "list") (c := true) (show kitB "list" "list" = some true by decide +kernel) rfl hb.n_list bt_list rfl hb.n_isinstance bt_isinstance) (by intro _; rfl))))))) h.2.1
  (xb_if0 (xt_w (xw_or (xt_not (xt_chain cv_le cv_le (xe_int (lv := .bor)) (xe_callB cf (lc := .bor) cl_len rfl hb.n_len bt_len (xa_cons (xe_snd (xe_var cf 0 rfl (.inr (.inl rfl)) rfl) (fun _ _ => rfl)) xa_nil)) (xe_glob cf hb.c_MOST_SETS (lv := .bor)) rfl)) (fun hc8 => (xw_or1 (xt_not (xt_val (xe_callB cf (lc := .bor) (cl_all cf) rfl hb.n_all bt_all (xa_cons (xe_lcN (own := [("one", 2)]) (js := [2]) (g := fun (one_ : (List Int)) => (m_is_list_of one_ family.1)) (k' := true) (Γt := fun one_ => [dv false family, .no, dv false one_]) cf (blkOk_by (by decide +kernel)) (by decide) (xi_list (xe_snd (xe_var cf 0 rfl (.inr (.inl rfl)) rfl) (fun _ _ => rfl))) (fun X3 hX3 one_ hm3 => (xg_name (j := 2) (hX3.cf cf) rfl (.inl rfl) rfl)) (fun X3 hX3 one_ hm3 => (xe_sc (xe_fn (hX3.cf cf) (hX3.to at_) G_is_list_of rfl rfl ⟨(one_, family.1), ((h.2.2.1 hc8) one_ hm3)⟩ (xa_cons (xe_var (hX3.cf cf) 2 rfl (.inl rfl) rfl) (xa_cons (xe_sc (xe_fst (xe_var (hX3.cf cf) 0 rfl (.inr (.inl rfl)) rfl) (fun _ _ => rfl))) xa_nil)) (.cons (k := false) (.cons (k := false) .nil)))))) xa_nil)) (by intro _; rfl))))))) h.2.2.2.1
  (xb_if0 (xt_val (xe_callB cf (lc := .bor) (cl_any cf) rfl hb.n_any bt_any (xa_cons (xe_lcN (own := [("at", 1), ("one", 2)]) (js := [1, 2]) (g := fun (x4_ : (Int × (List Int))) => (memB x4_.2 (cutL family.2 none (some x4_.1)))) (k' := true) (Γt := fun x4_ => [dv false family, dv false x4_.1, dv false x4_.2]) cf (blkOk_by (by decide +kernel)) (by decide) (xi_enum cf (xe_snd (xe_var cf 0 rfl (.inr (.inl rfl)) rfl) (fun _ _ => rfl)) rfl hb.n_enumerate) (fun X4 hX4 x4_ hm4 => (xg_tup (hX4.cf cf) (xgs_cons (xg_name (j := 1) (hX4.cf cf) rfl (.inl rfl) rfl) (xgs_cons (xg_name (j := 2) (hX4.cf cf) rfl (.inl rfl) rfl) xgs_nil)) rfl)) (fun X4 hX4 x4_ hm4 => (xe_cmp (lc := (.st true)) (cv_in (α := (List Int)) (n := 1) (hX4.cf cf)) (xe_var (hX4.cf cf) 2 rfl (.inl rfl) rfl) (xe_sl (xe_snd (xe_var (hX4.cf cf) 0 rfl (.inr (.inl rfl)) rfl) (fun _ _ => rfl)) xo_none (xo_some (xe_var (hX4.cf cf) 1 rfl (.inl rfl) rfl))) rfl))) xa_nil)) (by intro _; rfl)) h.2.2.2.2
  (xb_end xb_nil (.drop (.drop (.drop .nil))))))))
abbrev sp_asked_family [CA] : Sp := spI false (fun (i : {p : (Int × (List (List Int))) // q_asked_family p}) => [dv false i.1]) (fun i => Py.enc (m_asked_family i.1))
theorem ok_asked_family [CA] {t : Tx} (D : DefAt t "asked_family" s_asked_family) (hb : Bl t) (G_is_whole : FnAt t "is_whole" 1 ["thing"] sp_is_whole) (G_is_list_of : FnAt t "is_list_of" 2 ["thing", "many"] sp_is_list_of) : FnAt t "asked_family" 3 ["family"] sp_asked_family :=
  fn_defU (k := 2) D sc_asked_family (fun _ _ _ _ _ _ us hl => match us, hl with | [_], _ => rfl) (fun _ => rfl) _ fun X b i cf at_ hR => b_asked_family cf at_ hb hR G_is_whole G_is_list_of i.1 i.2
/-! ### asked_point -/
abbrev s_asked_point : Stmt := top 12
abbrev N_asked_point : List Str := ["family", "point"]
abbrev R_asked_point : List En := [.no, .no]
theorem sc_asked_point : FnScope N_asked_point ["family", "point"] (defScope s_asked_point) := ⟨rfl, rfl, rfl, by decide +kernel, rfl, by decide +kernel, by decide +kernel⟩
def m_asked_point (family : (Int × (List (List Int)))) (point : Int) : Unit := ()
def q_asked_point (family : (Int × (List (List Int)))) (point : Int) : Prop := ((!(m_is_whole point)) || (!(decide ((0 : Int) ≤ point) && decide (point < family.1)))) = false
theorem b_asked_point [CA] {X : Cx} {b : Bs} {t : Tx} (cf : Cf X N_asked_point (defScope s_asked_point) t.mg (fun _ => true)) (at_ : At X t 1) (hb : Bl t) (hR : b.R = R_asked_point) (G_is_whole : FnAt t "is_whole" 1 ["thing"] sp_is_whole) (family : (Int × (List (List Int)))) (point : Int) (h : q_asked_point family point) : XB X b false (defBody s_asked_point) [dv false family, dv false point] (none : Option Unit) [.no, .no] :=
  (xb_if0 (xt_w (xw_or (xt_not (xt_val (xe_fn cf at_ G_is_whole rfl rfl ⟨point, trivial⟩ (xa_cons (xe_var cf 1 rfl (.inl rfl) rfl) xa_nil) (.cons (k := false) .nil)) (by intro _; rfl))) (fun hc9 => (xw_or1 (xt_not (xt_chain cv_le cv_lt (xe_int (lv := .bor)) (xe_var cf 1 rfl (.inl rfl) rfl) (xe_fst (xe_var cf 0 rfl (.inl rfl) rfl) (fun _ _ => rfl)) rfl)))))) h
  (xb_end xb_nil (.drop (.drop .nil))))
abbrev sp_asked_point [CA] : Sp := spI false (fun (i : {p : ((Int × (List (List Int))) × Int) // q_asked_point p.1 p.2}) => [dv false i.1.1, dv false i.1.2]) (fun i => Py.enc (m_asked_point i.1.1 i.1.2))
theorem ok_asked_point [CA] {t : Tx} (D : DefAt t "asked_point" s_asked_point) (hb : Bl t) (G_is_whole : FnAt t "is_whole" 1 ["thing"] sp_is_whole) : FnAt t "asked_point" 2 ["family", "point"] sp_asked_point :=
  fn_defU (k := 1) D sc_asked_point (fun _ _ _ _ _ _ us hl => match us, hl with | [_, _], _ => rfl) (fun _ => rfl) _ fun X b i cf at_ hR => b_asked_point cf at_ hb hR G_is_whole i.1.1 i.1.2 i.2
/-! ### asked_answer -/
abbrev s_asked_answer : Stmt := top 13
abbrev N_asked_answer : List Str := ["there"]
abbrev R_asked_answer : List En := [.no]
theorem sc_asked_answer : FnScope N_asked_answer ["there"] (defScope s_asked_answer) := ⟨rfl, rfl, rfl, by decide +kernel, rfl, by decide +kernel, by decide +kernel⟩
def m_asked_answer (there : Bool) : Unit := ()
def q_asked_answer (there : Bool) : Prop := (!true) = false
theorem b_asked_answer [CA] {X : Cx} {b : Bs} {t : Tx} (cf : Cf X N_asked_answer (defScope s_asked_answer) t.mg (fun _ => true)) (at_ : At X t 0) (hb : Bl t) (hR : b.R = R_asked_answer) (there : Bool) (h : q_asked_answer there) : XB X b false (defBody s_asked_answer) [dv false there] (none : Option Unit) [.no] :=
  (xb_if0 (xt_not (xt_val (xe_isi (lc := .bor) cf (α := Bool) (p := there) (xe_var cf 0 rfl (.inl rfl) rfl) (n := "bool") (c := true) (show kitB "bool" "bool" = some true by decide +kernel) rfl hb.n_bool bt_bool rfl hb.n_isinstance bt_isinstance) (by intro _; rfl))) h
  (xb_end xb_nil (.drop .nil)))
abbrev sp_asked_answer [CA] : Sp := spI false (fun (i : {p : Bool // q_asked_answer p}) => [dv false i.1]) (fun i => Py.enc (m_asked_answer i.1))
theorem ok_asked_answer [CA] {t : Tx} (D : DefAt t "asked_answer" s_asked_answer) (hb : Bl t) : FnAt t "asked_answer" 1 ["there"] sp_asked_answer :=
  fn_defU (k := 0) D sc_asked_answer (fun _ _ _ _ _ _ us hl => match us, hl with | [_], _ => rfl) (fun _ => rfl) _ fun X b i cf at_ hR => b_asked_answer cf at_ hb hR i.1 i.2
/-! ### halved -/
abbrev s_halved : Stmt := top 14
abbrev N_halved : List Str := ["sets", "point", "there", "one"]
abbrev R_halved : List En := [.no, .no, .no, .no]
theorem sc_halved : FnScope N_halved ["sets", "point", "there"] (defScope s_halved) := ⟨rfl, rfl, rfl, by decide +kernel, rfl, by decide +kernel, by decide +kernel⟩
def m_halved (sets : (List (List Int))) (point : Int) (there : Bool) : (List (List Int)) := (sets.filter fun (one_ : (List Int)) => (decide ((memB point one_) = there)))
theorem b_halved [CA] {X : Cx} {b : Bs} {t : Tx} (cf : Cf X N_halved (defScope s_halved) t.mg (fun _ => true)) (at_ : At X t 0) (hb : Bl t) (hR : b.R = R_halved) (sets : (List (List Int))) (point : Int) (there : Bool) : XB X b false (defBody s_halved) [dv false sets, dv false point, dv false there, .no] (some (m_halved sets point there)) [] :=
  (xb_ret hR (Wk.sub (.drop (.drop (.drop (.drop .nil))))) (xe_eq (xe_lc (own := [("one", 3)]) (js := [3]) (f := fun (one_ : (List Int)) => (decide ((memB point one_) = there))) (g := fun (one_ : (List Int)) => one_) (k' := false) (Γt := fun one_ => [dv false sets, dv false point, dv false there, dv false one_]) cf (blkOk_by (by decide +kernel)) (by decide) (xi_list (xe_var cf 0 rfl (.inl rfl) rfl)) (fun X5 hX5 one_ hm5 => (xg_name (j := 3) (hX5.cf cf) rfl (.inl rfl) rfl)) (fun X5 hX5 one_ hm5 => xts_one (xt_cmp (cv_eq (α := Bool) (n := 0) (hX5.cf cf)) (xe_cmp (lc := .bor) (cv_in (α := Int) (n := 0) (hX5.cf cf)) (xe_var (hX5.cf cf) 1 rfl (.inr (.inl rfl)) rfl) (xe_var (hX5.cf cf) 3 rfl (.inl rfl) rfl) rfl) (xe_var (hX5.cf cf) 2 rfl (.inr (.inl rfl)) rfl) rfl)) (fun X5 hX5 one_ hm5 hf5 => (xe_var (hX5.cf cf) 3 rfl (.inl rfl) rfl))) (List.map_id' _)))
abbrev sp_halved [CA] : Sp := spI false (fun (i : {p : ((List (List Int)) × Int × Bool) // True}) => [dv false i.1.1, dv false i.1.2.1, dv false i.1.2.2]) (fun i => Py.enc (m_halved i.1.1 i.1.2.1 i.1.2.2))
theorem ok_halved [CA] {t : Tx} (D : DefAt t "halved" s_halved) (hb : Bl t) : FnAt t "halved" 1 ["sets", "point", "there"] sp_halved :=
  fn_def (k := 0) D sc_halved (fun _ _ _ _ _ _ us hl => match us, hl with | [_, _, _], _ => rfl) (fun _ => rfl) fun X b i cf at_ hR => b_halved cf at_ hb hR i.1.1 i.1.2.1 i.1.2.2
/-! ### key_of -/
abbrev s_key_of : Stmt := top 16
abbrev N_key_of : List Str := ["sets", "one"]
abbrev R_key_of : List En := [.no, .no]
theorem sc_key_of : FnScope N_key_of ["sets"] (defScope s_key_of) := ⟨rfl, rfl, rfl, by decide +kernel, rfl, by decide +kernel, by decide +kernel⟩
def m_key_of (sets : (List (List Int))) : (VT (VT Int)) := (VT.mk (sets.map fun (one_ : (List Int)) => (VT.mk one_)))
theorem b_key_of [CA] {X : Cx} {b : Bs} {t : Tx} (cf : Cf X N_key_of (defScope s_key_of) t.mg (fun _ => true)) (at_ : At X t 0) (hb : Bl t) (hR : b.R = R_key_of) (sets : (List (List Int))) : XB X b false (defBody s_key_of) [dv false sets, .no] (some (m_key_of sets)) [] :=
  (xb_ret hR (Wk.sub (.drop (.drop .nil))) (xe_callTy cf cl_tuple rfl hb.n_tuple bt_tuple (xa_cons (xe_lcN (own := [("one", 1)]) (js := [1]) (g := fun (one_ : (List Int)) => (VT.mk one_)) (k' := false) (Γt := fun one_ => [dv false sets, dv false one_]) cf (blkOk_by (by decide +kernel)) (by decide) (xi_list (xe_var cf 0 rfl (.inl rfl) rfl)) (fun X6 hX6 one_ hm6 => (xg_name (j := 1) (hX6.cf cf) rfl (.inl rfl) rfl)) (fun X6 hX6 one_ hm6 => (xe_callTy (hX6.cf cf) cl_tuple rfl hb.n_tuple bt_tuple (xa_cons (xe_var (hX6.cf cf) 1 rfl (.inl rfl) rfl) xa_nil)))) xa_nil)))
abbrev sp_key_of [CA] : Sp := spI false (fun (i : {p : (List (List Int)) // True}) => [dv false i.1]) (fun i => Py.enc (m_key_of i.1))
theorem ok_key_of [CA] {t : Tx} (D : DefAt t "key_of" s_key_of) (hb : Bl t) : FnAt t "key_of" 1 ["sets"] sp_key_of :=
  fn_def (k := 0) D sc_key_of (fun _ _ _ _ _ _ us hl => match us, hl with | [_], _ => rfl) (fun _ => rfl) fun X b i cf at_ hR => b_key_of cf at_ hb hR i.1
/-! ### parting -/
abbrev s_parting : Stmt := top 17
abbrev N_parting : List Str := ["sets", "points", "point"]
abbrev R_parting : List En := [.no, .no, .no]
theorem sc_parting : FnScope N_parting ["sets", "points"] (defScope s_parting) := ⟨rfl, rfl, rfl, by decide +kernel, rfl, by decide +kernel, by decide +kernel⟩
def m_parting (sets : (List (List Int))) (points : Int) : (List Int) := ((rg 0 (points).toNat).filter fun (point_ : Int) => (decide ((0 : Int) < (((m_halved sets point_ true)).length : Int)) && decide ((((m_halved sets point_ true)).length : Int) < ((sets).length : Int))))
def q_parting (sets : (List (List Int))) (points : Int) : Prop := -1000000 ≤ points ∧ points ≤ 1000000
theorem b_parting [CA] {X : Cx} {b : Bs} {t : Tx} (cf : Cf X N_parting (defScope s_parting) t.mg (fun _ => true)) (at_ : At X t 1) (hb : Bl t) (hR : b.R = R_parting) (G_halved : FnAt t "halved" 1 ["sets", "point", "there"] sp_halved) (sets : (List (List Int))) (points : Int) (h : q_parting sets points) : XB X b false (defBody s_parting) [dv false sets, dv false points, .no] (some (m_parting sets points)) [] :=
  (xb_ret hR (Wk.sub (.drop (.drop (.drop .nil)))) (xe_eq (xe_lc (own := [("point", 2)]) (js := [2]) (f := fun (point_ : Int) => (decide ((0 : Int) < (((m_halved sets point_ true)).length : Int)) && decide ((((m_halved sets point_ true)).length : Int) < ((sets).length : Int)))) (g := fun (point_ : Int) => point_) (k' := false) (Γt := fun point_ => [dv false sets, dv false points, dv true point_]) cf (blkOk_by (by decide +kernel)) (by decide) (xi_range1 cf (xe_var cf 1 rfl (.inl rfl) rfl) h rfl hb.n_range) (fun X7 hX7 point_ hm7 => (xg_name (j := 2) (hX7.cf cf) rfl (.inl rfl) rfl)) (fun X7 hX7 point_ hm7 => xts_one (xt_chain cv_lt cv_lt (xe_int (lv := .bor)) (xe_callB (hX7.cf cf) (lc := .bor) cl_len rfl hb.n_len bt_len (xa_cons (xe_fn (hX7.cf cf) (hX7.to at_) G_halved rfl rfl ⟨(sets, point_, true), trivial⟩ (xa_cons (xe_var (hX7.cf cf) 0 rfl (.inr (.inl rfl)) rfl) (xa_cons (xe_sc (xe_var (hX7.cf cf) 2 rfl (.inl rfl) rfl)) (xa_cons (xe_bl (lv := (.st false))) xa_nil))) (.cons (k := false) (.cons (k := false) (.cons (k := false) .nil)))) xa_nil)) (xe_callB (hX7.cf cf) (lc := .bor) cl_len rfl hb.n_len bt_len (xa_cons (xe_var (hX7.cf cf) 0 rfl (.inr (.inl rfl)) rfl) xa_nil)) rfl)) (fun X7 hX7 point_ hm7 hf7 => (xe_sc (xe_var (hX7.cf cf) 2 rfl (.inl rfl) rfl)))) (List.map_id' _)))
abbrev sp_parting [CA] : Sp := spI false (fun (i : {p : ((List (List Int)) × Int) // q_parting p.1 p.2}) => [dv false i.1.1, dv false i.1.2]) (fun i => Py.enc (m_parting i.1.1 i.1.2))
theorem ok_parting [CA] {t : Tx} (D : DefAt t "parting" s_parting) (hb : Bl t) (G_halved : FnAt t "halved" 1 ["sets", "point", "there"] sp_halved) : FnAt t "parting" 2 ["sets", "points"] sp_parting :=
  fn_def (k := 1) D sc_parting (fun _ _ _ _ _ _ us hl => match us, hl with | [_, _], _ => rfl) (fun _ => rfl) fun X b i cf at_ hR => b_parting cf at_ hb hR G_halved i.1.1 i.1.2 i.2
def qM_mistakes_of (n : Nat) (p : List (List Int) × Int × List (List Int)) : Prop := p.1.length < n ∧ p.1.Sublist p.2.2 ∧ p.2.2.length ≤ 16 ∧ (0 ≤ p.2.1 ∧ p.2.1 ≤ 1000) ∧ p.2.2.Nodup ∧ ∀ f ∈ p.2.2, Ris p.2.1 f
abbrev sp_mistakes_of (P : Program) (w : World) (n : Nat) : Sp := spM P w false (fun (i : {p : List (List Int) × Int × List (List Int) // qM_mistakes_of n p}) => [dv false i.1.1, dv false i.1.2.1]) (fun i => ⟨mM i.1.2.1, i.1.2.2, none⟩) (fun i => Py.enc (mM i.1.2.1 i.1.1))
theorem qM_mistakes_of_z {n : Nat} {p : List (List Int) × Int × List (List Int)} (h : qM_mistakes_of n p) : p.2.2.length ≤ 16 := h.2.2.1
/-! ### mistakes_of -/
abbrev s_mistakes_of : Stmt := top 18
abbrev N_mistakes_of : List Str := ["sets", "points", "known", "key", "found", "point", "one", "other"]
abbrev R_mistakes_of (t : Tx) (mo : Mm) : List En := [.no, .no, .res (memoR t.P t.w mo []), .no, .no, .no, .no, .no]
theorem sc_mistakes_of : FnScope N_mistakes_of ["sets", "points", "known"] (defScope s_mistakes_of) := ⟨rfl, rfl, rfl, by decide +kernel, rfl, by decide +kernel, by decide +kernel⟩
def m_mistakes_of_2 (found : (List Int)) (one : Int) (other : Int) : (List Int) := (found ++ [(max (max one other) ((1 : Int) + (min one other)))])
def q_mistakes_of_2 (found : (List Int)) : Prop := (found).length < 1000000
theorem b_mistakes_of_2 [CA] {X : Cx} {b : Bs} {t : Tx} {n : Nat} {mo : Mm} (cf : Cf X N_mistakes_of (defScope s_mistakes_of) t.mg (fun _ => true)) (at_ : At X t (n + 2)) (hb : Bl t) (hR : b.R = R_mistakes_of t mo) (G_key_of : FnAt t "key_of" 1 ["sets"] sp_key_of) (G_parting : FnAt t "parting" 2 ["sets", "points"] sp_parting) (G_mistakes_of : FnAt t "mistakes_of" (n + 2) ["sets", "points", "known"] (sp_mistakes_of t.P t.w n)) (G_halved : FnAt t "halved" 1 ["sets", "point", "there"] sp_halved) (sets : (List (List Int))) (points : Int) (key : (VT (VT Int))) (found : (List Int)) (one : Int) (other : Int) (s1 : (List Int)) (point : Int) (h : q_mistakes_of_2 found) : XB X b false (List.drop 2 (stB (stN (stB (stN ((defBody s_mistakes_of)) 2)) 1))) [dv false sets, dv false points, .res (memoR t.P t.w mo []), dv false key, rv Int true found, .no, dv true one, dv true other] (none : Option Int) ((fun (s1 : (List Int)) => [dv false sets, dv false points, .res (memoR t.P t.w mo []), dv false key, rv Int true s1, .no, .no, .no]) (m_mistakes_of_2 found one other)) :=
  (xb_seq (xs_app (j := 4) (k := true) cf rfl (.inl rfl) rfl (xe_callB cf (lc := (.st true)) (cl_max3 cf) rfl hb.n_max bt_max (xa_cons (xe_var cf 6 rfl (.inl rfl) rfl) (xa_cons (xe_var cf 7 rfl (.inl rfl) rfl) (xa_cons (xe_add (lc := .bor) (xe_int (lv := .bor)) (xe_callB cf (lc := .bor) (cl_min2 cf) rfl hb.n_min bt_min (xa_cons (xe_var cf 6 rfl (.inl rfl) rfl) (xa_cons (xe_var cf 7 rfl (.inl rfl) rfl) xa_nil)))) xa_nil)))) h)
  (xb_end xb_nil (.keep (.keep (.keep (.keep (.keep (.drop (.drop (.drop .nil))))))))))
def m_mistakes_of_1 (sets : (List (List Int))) (points : Int) (found : (List Int)) (point : Int) (one : Int) : (List Int) := (m_mistakes_of_2 found one (mM points (m_halved sets point true)))
def q_mistakes_of_1 (n : Nat) (mo : Mm) (sets : (List (List Int))) (points : Int) (found : (List Int)) (point : Int) : Prop := ((qM_mistakes_of n ((m_halved sets point true), points, mo.S0)) ∧ (mM points = mo.g)) ∧ (q_mistakes_of_2 found)
theorem b_mistakes_of_1 [CA] {X : Cx} {b : Bs} {t : Tx} {n : Nat} {mo : Mm} (cf : Cf X N_mistakes_of (defScope s_mistakes_of) t.mg (fun _ => true)) (at_ : At X t (n + 2)) (hb : Bl t) (hR : b.R = R_mistakes_of t mo) (G_key_of : FnAt t "key_of" 1 ["sets"] sp_key_of) (G_parting : FnAt t "parting" 2 ["sets", "points"] sp_parting) (G_mistakes_of : FnAt t "mistakes_of" (n + 2) ["sets", "points", "known"] (sp_mistakes_of t.P t.w n)) (G_halved : FnAt t "halved" 1 ["sets", "point", "there"] sp_halved) (sets : (List (List Int))) (points : Int) (key : (VT (VT Int))) (found : (List Int)) (point : Int) (one : Int) (s1 : (List Int)) (h : q_mistakes_of_1 n mo sets points found point) : XB X b false (List.drop 1 (stB (stN (stB (stN ((defBody s_mistakes_of)) 2)) 1))) [dv false sets, dv false points, .res (memoR t.P t.w mo []), dv false key, rv Int true found, dv false point, dv true one, .no] (none : Option Int) ((fun (s1 : (List Int)) => [dv false sets, dv false points, .res (memoR t.P t.w mo []), dv false key, rv Int true s1, .no, .no, .no]) (m_mistakes_of_1 sets points found point one)) :=
  (xb_seq (xs_asgM (k := true) (xm_sc (xm_fn (j := 2) cf at_ G_mistakes_of (Nat.le_refl _) rfl ⟨((m_halved sets point true), points, mo.S0), h.1.1⟩ rfl ⟨h.1.2, rfl⟩ (xmm_cons (k := false) (xm_xe (xe_fn cf at_ G_halved rfl rfl ⟨(sets, point, true), trivial⟩ (xa_cons (xe_var cf 0 rfl (.inl rfl) rfl) (xa_cons (xe_var cf 5 rfl (.inl rfl) rfl) (xa_cons (xe_bl (lv := (.st false))) xa_nil))) (.cons (k := false) (.cons (k := false) (.cons (k := false) .nil))))) (xmm_cons (k := false) (xm_xe (xe_var cf 1 rfl (.inl rfl) rfl)) (xmm_nil cf rfl (.inl rfl) rfl))) (.cons (k := false) (.cons (k := false) .nil)))) (xg_name (j := 7) cf rfl (.inl rfl) rfl))
  (xb_sub (b_mistakes_of_2 cf at_ hb hR G_key_of G_parting G_mistakes_of G_halved sets points key found one (mM points (m_halved sets point true)) s1 point h.2) (.keep (.keep (.keep (.keep (.keep (.drop (.keep (.keep .nil))))))))))
def m_mistakes_of_l1 (sets : (List (List Int))) (points : Int) (s1 : (List Int)) (point : Int) : (List Int) := (m_mistakes_of_1 sets points s1 point (mM points (m_halved sets point false)))
def q_mistakes_of_l1 (n : Nat) (mo : Mm) (sets : (List (List Int))) (points : Int) (s1 : (List Int)) (point : Int) : Prop := ((qM_mistakes_of n ((m_halved sets point false), points, mo.S0)) ∧ (mM points = mo.g)) ∧ (q_mistakes_of_1 n mo sets points s1 point)
theorem b_mistakes_of_l1 [CA] {X : Cx} {b : Bs} {t : Tx} {n : Nat} {mo : Mm} (cf : Cf X N_mistakes_of (defScope s_mistakes_of) t.mg (fun _ => true)) (at_ : At X t (n + 2)) (hb : Bl t) (hR : b.R = R_mistakes_of t mo) (G_key_of : FnAt t "key_of" 1 ["sets"] sp_key_of) (G_parting : FnAt t "parting" 2 ["sets", "points"] sp_parting) (G_mistakes_of : FnAt t "mistakes_of" (n + 2) ["sets", "points", "known"] (sp_mistakes_of t.P t.w n)) (G_halved : FnAt t "halved" 1 ["sets", "point", "there"] sp_halved) (sets : (List (List Int))) (points : Int) (key : (VT (VT Int))) (s1 : (List Int)) (point : Int) (h : q_mistakes_of_l1 n mo sets points s1 point) : XB X b false (stB (stN (stB (stN ((defBody s_mistakes_of)) 2)) 1)) [dv false sets, dv false points, .res (memoR t.P t.w mo []), dv false key, rv Int true s1, dv false point, .no, .no] (none : Option Int) ((fun (s1 : (List Int)) => [dv false sets, dv false points, .res (memoR t.P t.w mo []), dv false key, rv Int true s1, .no, .no, .no]) (m_mistakes_of_l1 sets points s1 point)) :=
  (xb_seq (xs_asgM (k := true) (xm_sc (xm_fn (j := 2) cf at_ G_mistakes_of (Nat.le_refl _) rfl ⟨((m_halved sets point false), points, mo.S0), h.1.1⟩ rfl ⟨h.1.2, rfl⟩ (xmm_cons (k := false) (xm_xe (xe_fn cf at_ G_halved rfl rfl ⟨(sets, point, false), trivial⟩ (xa_cons (xe_var cf 0 rfl (.inl rfl) rfl) (xa_cons (xe_var cf 5 rfl (.inl rfl) rfl) (xa_cons (xe_bl (lv := (.st false))) xa_nil))) (.cons (k := false) (.cons (k := false) (.cons (k := false) .nil))))) (xmm_cons (k := false) (xm_xe (xe_var cf 1 rfl (.inl rfl) rfl)) (xmm_nil cf rfl (.inl rfl) rfl))) (.cons (k := false) (.cons (k := false) .nil)))) (xg_name (j := 6) cf rfl (.inl rfl) rfl))
  (xb_sub (b_mistakes_of_1 cf at_ hb hR G_key_of G_parting G_mistakes_of G_halved sets points key s1 point (mM points (m_halved sets point false)) s1 h.2) (.keep (.keep (.keep (.keep (.keep (.keep (.keep (.drop .nil))))))))))
def m_mistakes_of (mo : Mm) (sets : (List (List Int))) (points : Int) : Int := (cond (decide (((sets).length : Int) < (2 : Int))) (((sets).length : Int) - (1 : Int)) (mo.g sets))
def q_mistakes_of (n : Nat) (mo : Mm) (sets : (List (List Int))) (points : Int) : Prop := (decide (((sets).length : Int) < (2 : Int))) = false → (((q_parting sets points) ∧ (∀ (i : Nat) (s1 : (List Int)) (point : Int), (m_parting sets points)[i]? = some point → ((m_parting sets points).take i).foldl (m_mistakes_of_l1 sets points) ([] : (List Int)) = s1 → q_mistakes_of_l1 n mo sets points s1 point)) ∧ ((((m_parting sets points).foldl (m_mistakes_of_l1 sets points) ([] : (List Int))) ≠ []) ∧ (((maxL ((m_parting sets points).foldl (m_mistakes_of_l1 sets points) ([] : (List Int)))) = mo.g sets) ∧ (sets.Sublist mo.S0))))
theorem b_mistakes_of [CA] {X : Cx} {b : Bs} {t : Tx} {n : Nat} {mo : Mm} (cf : Cf X N_mistakes_of (defScope s_mistakes_of) t.mg (fun _ => true)) (at_ : At X t (n + 2)) (hb : Bl t) (hR : b.R = R_mistakes_of t mo) (G_key_of : FnAt t "key_of" 1 ["sets"] sp_key_of) (G_parting : FnAt t "parting" 2 ["sets", "points"] sp_parting) (G_mistakes_of : FnAt t "mistakes_of" (n + 2) ["sets", "points", "known"] (sp_mistakes_of t.P t.w n)) (G_halved : FnAt t "halved" 1 ["sets", "point", "there"] sp_halved) (sets : (List (List Int))) (points : Int) (h : q_mistakes_of n mo sets points) : XB X b false (defBody s_mistakes_of) [dv false sets, dv false points, .res (memoR t.P t.w mo []), .no, .no, .no, .no, .no] (some (m_mistakes_of mo sets points)) [] :=
  (xb_ifr (Γ1 := []) (xt_cmp cv_lt (xe_callB cf (lc := .bor) cl_len rfl hb.n_len bt_len (xa_cons (xe_var cf 0 rfl (.inl rfl) rfl) xa_nil)) (xe_int (lv := .bor)) rfl) (fun hc10 => (xb_ret hR (Wk.sub (.drop (.drop (.keep (.drop (.drop (.drop (.drop (.drop .nil))))))))) (xe_subI (lc := (.st false)) (xe_callB cf (lc := .bor) cl_len rfl hb.n_len bt_len (xa_cons (xe_var cf 0 rfl (.inl rfl) rfl) xa_nil)) (xe_int (lv := .bor)))))
  (fun hc10 => (xb_seq (xs_asg (k := false) (xe_fn cf at_ G_key_of rfl rfl ⟨sets, trivial⟩ (xa_cons (xe_var cf 0 rfl (.inl rfl) rfl) xa_nil) (.cons (k := false) .nil)) (xg_name (j := 3) cf rfl (.inl rfl) rfl))
  (xb_seq (xs_ifMemo (j := 2) (S := sets) cf at_ rfl (.inl rfl) rfl (xe_var cf 3 rfl (.inl rfl) rfl) (xb_seq (xs_new (j := 4) cf rfl (.inl rfl) rfl Int)
  (xb_seq (xs_forN (Γs := (fun (s1 : (List Int)) => [dv false sets, dv false points, .res (memoR t.P t.w mo []), dv false (m_key_of sets), rv Int true s1, .no, .no, .no])) (Γt := (fun (s1 : (List Int)) (point : Int) => [dv false sets, dv false points, .res (memoR t.P t.w mo []), dv false (m_key_of sets), rv Int true s1, dv false point, .no, .no])) (step := (m_mistakes_of_l1 sets points)) (js := [5]) (fun i s1 => ((m_parting sets points).take i).foldl (m_mistakes_of_l1 sets points) ([] : (List Int)) = s1) ([] : (List Int)) cf (xi_list (xe_fn cf at_ G_parting rfl rfl ⟨(sets, points), (h hc10).1.1⟩ (xa_cons (xe_var cf 0 rfl (.inl rfl) rfl) (xa_cons (xe_var cf 1 rfl (.inl rfl) rfl) xa_nil)) (.cons (k := false) (.cons (k := false) .nil)))) (.keep (.keep (.keep (.keep (.keep (.drop (.drop (.drop .nil)))))))) rfl (fun s1 point _ => (xg_name (j := 5) cf rfl (.inl rfl) rfl)) (fun i s1 point hx hi => (b_mistakes_of_l1 cf at_ hb hR G_key_of G_parting G_mistakes_of G_halved sets points (m_key_of sets) s1 point ((h hc10).1.2 i s1 point hx hi))) (foldl_Iv _ _ _))
  (xb_seq (xs_memPut (j := 2) (S := sets) cf at_ rfl (.inl rfl) rfl (xe_var cf 3 rfl (.inl rfl) rfl) (xe_callB cf (lc := .bor) (cl_max cf (h hc10).2.1) rfl hb.n_max bt_max (xa_cons (xe_own cf (i := 4) rfl (.inl rfl) rfl) xa_nil)) (h hc10).2.2.1 (h hc10).2.2.2)
  xb_nil))) (Wk.sub (.drop (.drop (.keep (.keep (.drop (.drop (.drop (.drop .nil))))))))) (Wk.sub (.drop (.drop (.keep (.keep (.drop (.drop (.drop (.drop .nil))))))))))
  (xb_ret hR (Wk.memo (j := 2) rfl (Wk.sub (.drop (.drop (.keep (.drop (.drop (.drop (.drop (.drop .nil)))))))))) (xe_memGet (j := 2) (lv := (.st false)) cf at_ rfl (.inl rfl) rfl (List.mem_singleton.mpr rfl) (S := sets) (xe_var cf 3 rfl (.inl rfl) rfl) (fun _ _ => rfl)))))))
/-! ### Foreteller.__init__ -/
abbrev s_Foreteller___init__ : Stmt := inClass (top 20) 0
abbrev N_Foreteller___init__ : List Str := ["self", "family", "one"]
abbrev R_Foreteller___init__ : List En := [.no, .no, .no]
theorem sc_Foreteller___init__ : FnScope N_Foreteller___init__ ["self", "family"] (defScope s_Foreteller___init__) := ⟨rfl, rfl, rfl, by decide +kernel, rfl, by decide +kernel, by decide +kernel⟩
def q_Foreteller___init__ (family : (Int × (List (List Int)))) : Prop := (q_asked_family family) ∧ ((family.2.map fun (one_ : (List Int)) => one_).length ≤ 16)
theorem b_Foreteller___init__ [CA] {X : Cx} {b : Bs} {t : Tx} {v0 : V} {dx0 : Addr} (cf : Cf X N_Foreteller___init__ (defScope s_Foreteller___init__) t.mg (fun _ => true)) (at_ : At X t 3) (hb : Bl t) (hR : b.R = R_Foreteller___init__) (G_asked_family : FnAt t "asked_family" 3 ["family"] sp_asked_family) (G_Fo : FoAt t CA.f) (family : (Int × (List (List Int)))) (h : q_Foreteller___init__ family) : XB X b false (defBody s_Foreteller___init__) [.res (objRf t.P t.w CA.f ⟨[], none, some (v0, dx0), none⟩), dv false family, .no] (none : Option Unit) [.res (objRf t.P t.w CA.f (foQ (fo0 family) (some (v0, dx0)) none)), .no, .no] :=
  (xb_seq (xs_drop (xe_fn cf at_ G_asked_family rfl rfl ⟨family, h.1⟩ (xa_cons (xe_var cf 1 rfl (.inl rfl) rfl) xa_nil) (.cons (k := false) .nil)))
  (xb_seq (xs_fo1F (j := 0) cf at_ G_Fo rfl (.inl rfl) rfl (xe_sc (xe_fst (xe_var cf 1 rfl (.inl rfl) rfl) (fun _ _ => rfl))))
  (xb_seq (xs_fo2F (j := 0) cf at_ G_Fo rfl (.inl rfl) rfl (xe_lcN (own := [("one", 2)]) (js := [2]) (g := fun (one_ : (List Int)) => one_) (k' := true) (Γt := fun one_ => [.res (objRf t.P t.w CA.f ⟨[(("points" : Str), PyData.int family.1)], none, some (v0, dx0), none⟩), dv false family, dv false one_]) cf (blkOk_by (by decide +kernel)) (by decide) (xi_list (xe_snd (xe_var cf 1 rfl (.inl rfl) rfl) (fun _ _ => rfl))) (fun X8 hX8 one_ hm8 => (xg_name (j := 2) (hX8.cf cf) rfl (.inl rfl) rfl)) (fun X8 hX8 one_ hm8 => (xe_callTy (hX8.cf cf) (cl_listS (lc := (.st true))) rfl hb.n_list bt_list (xa_cons (xe_var (hX8.cf cf) 2 rfl (.inl rfl) rfl) xa_nil)))))
  (xb_seq (xs_fo3F (j := 0) cf at_ G_Fo rfl (.inl rfl) rfl (xe_int (lv := (.st true))))
  (xb_seq (xs_fo4F (j := 0) (S0 := (family.2.map fun (one_ : (List Int)) => one_)) cf at_ G_Fo rfl (.inl rfl) rfl h.2)
  (xb_end xb_nil (.keep (.drop (.drop .nil)))))))))
abbrev sp_Foreteller___init__ [CA] (t : Tx) : Sp := spNF t.P t.w CA.f (fun (i : {p : (Int × (List (List Int))) // q_Foreteller___init__ p}) => [dv false i.1]) (fun i => foS (fo0 i.1))
theorem ok_Foreteller___init__ [CA] {t : Tx} (D : DefI t "Foreteller" CA.f "Foreteller.__init__" s_Foreteller___init__) (hb : Bl t) (G_asked_family : FnAt t "asked_family" 3 ["family"] sp_asked_family) (G_Fo : FoAt t CA.f) : MkAt t "Foreteller" CA.f 4 ["self", "family"] (sp_Foreteller___init__ t) :=
  mk_defF (k := 3) D sc_Foreteller___init__ (fun _ _ _ _ _ _ us hl => match us, hl with | [_, _], _ => rfl) (fun _ => rfl) (fun _ => ⟨rfl, rfl, rfl⟩) fun X b i v0 dx0 cf at_ hR => b_Foreteller___init__ cf at_ hb hR G_asked_family G_Fo i.1 i.2
/-! ### Foreteller.guess -/
abbrev s_Foreteller_guess : Stmt := inClass (top 20) 1
abbrev N_Foreteller_guess : List Str := ["self", "point", "there"]
abbrev R_Foreteller_guess [CA] (t : Tx) (v0 : V) (dx0 : Addr) (d0 : V) (po0 : Fo) : List En := [.res (objR t.P t.w CA.f (foQ po0 (some (v0, dx0)) (some d0))), .no, .no]
theorem sc_Foreteller_guess : FnScope N_Foreteller_guess ["self", "point"] (defScope s_Foreteller_guess) := ⟨rfl, rfl, rfl, by decide +kernel, rfl, by decide +kernel, by decide +kernel⟩
def m_Foreteller_guess (self : Fo) (point : Int) : Bool := (decide ((mM self.pts (m_halved self.sets point true)) > (mM self.pts (m_halved self.sets point false))))
def q_Foreteller_guess (po0 : Fo) (self : Fo) (point : Int) : Prop := (q_asked_point (self.pts, self.sets) point) ∧ ((qM_mistakes_of 17 ((m_halved self.sets point true), self.pts, self.base)) ∧ ((qM_mistakes_of 17 ((m_halved self.sets point false), self.pts, self.base)) ∧ (self = po0)))
theorem b_Foreteller_guess [CA] {X : Cx} {b : Bs} {t : Tx} {v0 : V} {dx0 : Addr} {d0 : V} {po0 : Fo} (cf : Cf X N_Foreteller_guess (defScope s_Foreteller_guess) t.mg (fun _ => true)) (at_ : At X t 19) (hb : Bl t) (hR : b.R = R_Foreteller_guess t v0 dx0 d0 po0) (G_asked_point : FnAt t "asked_point" 2 ["family", "point"] sp_asked_point) (G_mistakes_of : FnAt t "mistakes_of" 19 ["sets", "points", "known"] (sp_mistakes_of t.P t.w 17)) (G_halved : FnAt t "halved" 1 ["sets", "point", "there"] sp_halved) (G_Fo : FoAt t CA.f) (self : Fo) (point : Int) (h : q_Foreteller_guess po0 self point) : XB X b false (defBody s_Foreteller_guess) [.res (objR t.P t.w CA.f (foQ self (some (v0, dx0)) (some d0))), dv false point, .no] (some (m_Foreteller_guess self point)) [] :=
  (xb_seq (xs_drop (xe_fn cf at_ G_asked_point rfl rfl ⟨((self.pts, self.sets), point), h.1⟩ (xa_cons (xe_t2 (lv := (.st false)) (xe_foP (j := 0) (s := self) cf at_ G_Fo rfl (.inl rfl) rfl) (xe_foS (j := 0) (s := self) cf at_ G_Fo rfl (.inl rfl) rfl)) (xa_cons (xe_var cf 1 rfl (.inl rfl) rfl) xa_nil)) (.cons (k := false) (.cons (k := false) .nil))))
  (xb_seq (xs_asgM (k := true) (xm_sc (xm_fnO (j := 0) (s := (foQ self (some (v0, dx0)) (some d0))) (g := mM self.pts) (S0 := self.base) cf at_ G_mistakes_of (Nat.le_of_ble_eq_true rfl) rfl ⟨((m_halved self.sets point true), self.pts, self.base), h.2.1⟩ rfl rfl ⟨rfl, rfl⟩ (xom_cons (k := false) (xm_xe (xe_fn cf at_ G_halved rfl rfl ⟨(self.sets, point, true), trivial⟩ (xa_cons (xe_foS (j := 0) (s := self) cf at_ G_Fo rfl (.inl rfl) rfl) (xa_cons (xe_var cf 1 rfl (.inl rfl) rfl) (xa_cons (xe_bl (lv := (.st false))) xa_nil))) (.cons (k := false) (.cons (k := false) (.cons (k := false) .nil))))) (xom_cons (k := false) (xm_xe (xe_foP (j := 0) (s := self) cf at_ G_Fo rfl (.inl rfl) rfl)) (xom_nil (s := (foQ self (some (v0, dx0)) (some d0))) (g := mM self.pts) (S0 := self.base) cf at_ G_Fo.cl G_Fo.nk rfl (.inl rfl) rfl rfl (foQ_known _ _ _)))) (.cons (k := false) (.cons (k := false) .nil)))) (xg_name (j := 2) cf rfl (.inl rfl) rfl))
  (xb_retC hR (Wk.sub (Sub.foE h.2.2.2 (.drop (.drop .nil)))) (xc_sc (k := false) (xc_cmp (k := false) (k' := false) cv_gt (xc_xe (xe_sc (xe_var cf 2 rfl (.inl rfl) rfl))) (xm_xc (xm_sc (xm_fnO (j := 0) (s := (foQ self (some (v0, dx0)) (some d0))) (g := mM self.pts) (S0 := self.base) cf at_ G_mistakes_of (Nat.le_of_ble_eq_true rfl) rfl ⟨((m_halved self.sets point false), self.pts, self.base), h.2.2.1⟩ rfl rfl ⟨rfl, rfl⟩ (xom_cons (k := false) (xm_xe (xe_fn cf at_ G_halved rfl rfl ⟨(self.sets, point, false), trivial⟩ (xa_cons (xe_foS (j := 0) (s := self) cf at_ G_Fo rfl (.inl rfl) rfl) (xa_cons (xe_var cf 1 rfl (.inl rfl) rfl) (xa_cons (xe_bl (lv := (.st false))) xa_nil))) (.cons (k := false) (.cons (k := false) (.cons (k := false) .nil))))) (xom_cons (k := false) (xm_xe (xe_foP (j := 0) (s := self) cf at_ G_Fo rfl (.inl rfl) rfl)) (xom_nil (s := (foQ self (some (v0, dx0)) (some d0))) (g := mM self.pts) (S0 := self.base) cf at_ G_Fo.cl G_Fo.nk rfl (.inl rfl) rfl rfl (foQ_known _ _ _)))) (.cons (k := false) (.cons (k := false) .nil))))) rfl)))))
abbrev sp_Foreteller_guess [CA] (t : Tx) : Sp := spO t.P t.w CA.f false (fun (i : {p : (Fo × Int) // q_Foreteller_guess p.1 p.1 p.2}) => [dv false i.1.2]) (fun i => foS i.1.1) (fun i => foS i.1.1) (fun i => Py.enc (m_Foreteller_guess i.1.1 i.1.2))
theorem ok_Foreteller_guess [CA] {t : Tx} (D : DefM t CA.f "guess" "Foreteller.guess" s_Foreteller_guess) (hb : Bl t) (G_asked_point : FnAt t "asked_point" 2 ["family", "point"] sp_asked_point) (G_mistakes_of : FnAt t "mistakes_of" 19 ["sets", "points", "known"] (sp_mistakes_of t.P t.w 17)) (G_halved : FnAt t "halved" 1 ["sets", "point", "there"] sp_halved) (G_Fo : FoAt t CA.f) : MethAt t CA.f "guess" 20 ["self", "point"] (sp_Foreteller_guess t) :=
  meth_defO (k := 19) D sc_Foreteller_guess (fun _ _ _ _ _ _ us hl => match us, hl with | [_, _], _ => rfl) (fun _ => rfl) (fun _ => ⟨rfl, rfl⟩) fun X b i v0 dx0 d0 cf at_ hR => b_Foreteller_guess (po0 := i.1.1) cf at_ hb hR G_asked_point G_mistakes_of G_halved G_Fo i.1.1 i.1.2 i.2
/-! ### Foreteller.tell -/
abbrev s_Foreteller_tell : Stmt := inClass (top 20) 2
abbrev N_Foreteller_tell : List Str := ["self", "point", "there", "some", "right"]
abbrev R_Foreteller_tell [CA] (t : Tx) (v0 : V) (dx0 : Addr) (d0 : V) (po0 : Fo) : List En := [.res (objR t.P t.w CA.f (foQ po0 (some (v0, dx0)) (some d0))), .no, .no, .no, .no]
theorem sc_Foreteller_tell : FnScope N_Foreteller_tell ["self", "point", "there"] (defScope s_Foreteller_tell) := ⟨rfl, rfl, rfl, by decide +kernel, rfl, by decide +kernel, by decide +kernel⟩
def m_Foreteller_tell_3 (right0 : Bool) : Bool := right0
def q_Foreteller_tell_3 (po0 : Fo) (self : Fo) (right0 : Bool) : Prop := ({ self with wrong := (self.wrong + (cond right0 (0 : Int) (1 : Int))) } : Fo) = po0
theorem b_Foreteller_tell_3 [CA] {X : Cx} {b : Bs} {t : Tx} {v0 : V} {dx0 : Addr} {d0 : V} {po0 : Fo} (cf : Cf X N_Foreteller_tell (defScope s_Foreteller_tell) t.mg (fun _ => true)) (at_ : At X t 20) (hb : Bl t) (hR : b.R = R_Foreteller_tell t v0 dx0 d0 po0) (G_asked_point : FnAt t "asked_point" 2 ["family", "point"] sp_asked_point) (G_asked_answer : FnAt t "asked_answer" 1 ["there"] sp_asked_answer) (G_halved : FnAt t "halved" 1 ["sets", "point", "there"] sp_halved) (G_Foreteller_guess : MethAt t CA.f "guess" 20 ["self", "point"] (sp_Foreteller_guess t)) (G_Fo : FoAt t CA.f) (self : Fo) (right0 : Bool) (h : q_Foreteller_tell_3 po0 self right0) : XB X b false (List.drop 6 ((defBody s_Foreteller_tell))) [.res (objR t.P t.w CA.f (foQ self (some (v0, dx0)) (some d0))), .no, .no, .no, dv true right0] (some (m_Foreteller_tell_3 right0)) [] :=
  (xb_seq (xs_foW (j := 0) (s := self) (k := false) cf at_ G_Fo rfl (.inl rfl) rfl (xe_add (lc := (.st false)) (xe_foW (j := 0) (s := self) cf at_ G_Fo rfl (.inl rfl) rfl) (xe_if (xt_val (xe_var cf 4 rfl (.inl rfl) rfl) (by intro _; rfl)) (fun hc11 => (xe_int (lv := (.st true)))) (fun hc11 => (xe_int (lv := (.st true)))))))
  (xb_ret hR (Wk.sub (Sub.foE h (.drop (.drop (.drop (.drop .nil)))))) (xe_sc (xe_var cf 4 rfl (.inl rfl) rfl))))
def m_Foreteller_tell_2 (right0 : Bool) : Bool := (m_Foreteller_tell_3 right0)
def q_Foreteller_tell_2 (po0 : Fo) (self : Fo) (some0 : (List (List Int))) (right0 : Bool) : Prop := q_Foreteller_tell_3 po0 ({ self with sets := some0 } : Fo) right0
theorem b_Foreteller_tell_2 [CA] {X : Cx} {b : Bs} {t : Tx} {v0 : V} {dx0 : Addr} {d0 : V} {po0 : Fo} (cf : Cf X N_Foreteller_tell (defScope s_Foreteller_tell) t.mg (fun _ => true)) (at_ : At X t 20) (hb : Bl t) (hR : b.R = R_Foreteller_tell t v0 dx0 d0 po0) (G_asked_point : FnAt t "asked_point" 2 ["family", "point"] sp_asked_point) (G_asked_answer : FnAt t "asked_answer" 1 ["there"] sp_asked_answer) (G_halved : FnAt t "halved" 1 ["sets", "point", "there"] sp_halved) (G_Foreteller_guess : MethAt t CA.f "guess" 20 ["self", "point"] (sp_Foreteller_guess t)) (G_Fo : FoAt t CA.f) (self : Fo) (some0 : (List (List Int))) (right0 : Bool) (h : q_Foreteller_tell_2 po0 self some0 right0) : XB X b false (List.drop 5 ((defBody s_Foreteller_tell))) [.res (objR t.P t.w CA.f (foQ self (some (v0, dx0)) (some d0))), .no, .no, dv false some0, dv true right0] (some (m_Foreteller_tell_2 right0)) [] :=
  (xb_seq (xs_foS (j := 0) (s := self) (k := false) cf at_ G_Fo rfl (.inl rfl) rfl (xe_var cf 3 rfl (.inl rfl) rfl))
  (xb_sub (b_Foreteller_tell_3 cf at_ hb hR G_asked_point G_asked_answer G_halved G_Foreteller_guess G_Fo ({ self with sets := some0 } : Fo) right0 h) (.keep (.drop (.drop (.drop (.keep .nil)))))))
def m_Foreteller_tell_1 (self : Fo) (point : Int) (there : Bool) : Bool := (m_Foreteller_tell_2 (decide ((m_Foreteller_guess self point) = there)))
def q_Foreteller_tell_1 (po0 : Fo) (self : Fo) (point : Int) (there : Bool) (some0 : (List (List Int))) : Prop := ((decide (some0 = ([] : (List (List Int))))) = false) ∧ ((q_Foreteller_guess self self point) ∧ (q_Foreteller_tell_2 po0 self some0 (decide ((m_Foreteller_guess self point) = there))))
theorem b_Foreteller_tell_1 [CA] {X : Cx} {b : Bs} {t : Tx} {v0 : V} {dx0 : Addr} {d0 : V} {po0 : Fo} (cf : Cf X N_Foreteller_tell (defScope s_Foreteller_tell) t.mg (fun _ => true)) (at_ : At X t 20) (hb : Bl t) (hR : b.R = R_Foreteller_tell t v0 dx0 d0 po0) (G_asked_point : FnAt t "asked_point" 2 ["family", "point"] sp_asked_point) (G_asked_answer : FnAt t "asked_answer" 1 ["there"] sp_asked_answer) (G_halved : FnAt t "halved" 1 ["sets", "point", "there"] sp_halved) (G_Foreteller_guess : MethAt t CA.f "guess" 20 ["self", "point"] (sp_Foreteller_guess t)) (G_Fo : FoAt t CA.f) (self : Fo) (point : Int) (there : Bool) (some0 : (List (List Int))) (h : q_Foreteller_tell_1 po0 self point there some0) : XB X b false (List.drop 3 ((defBody s_Foreteller_tell))) [.res (objR t.P t.w CA.f (foQ self (some (v0, dx0)) (some d0))), dv false point, dv false there, dv false some0, .no] (some (m_Foreteller_tell_1 self point there)) [] :=
  (xb_if0 (xt_cmp (cv_eq (α := (List (List Int))) (n := 2) cf) (xe_var cf 3 rfl (.inl rfl) rfl) (xe_lst (lv := (.st true)) (xs := ([] : (List (List Int)))) xa_nil) rfl) h.1
  (xb_seq (xs_asgM (k := true) (xc_sc (k := false) (xc_cmp (k := false) (k' := false) (cv_eq (α := Bool) (n := 0) cf) (xc_sc (xc_meth (j := 0) (os := (foQ self (some (v0, dx0)) (some d0))) cf at_ G_Fo.cl G_Foreteller_guess rfl rfl (.inl rfl) ⟨(self, point), h.2.1⟩ rfl (fun _ _ _ => rfl) ⟨rfl, rfl⟩ (show ("guess" : Str) ∉ (["points", "sets", "wrong"] : List Str) by decide +kernel) (by decide +kernel) (xa_cons (xe_var cf 1 rfl (.inl rfl) rfl) xa_nil) (.cons (k := false) .nil))) (xc_xe (xe_var cf 2 rfl (.inl rfl) rfl)) rfl)) (xg_name (j := 4) cf rfl (.inl rfl) rfl))
  (xb_sub (b_Foreteller_tell_2 cf at_ hb hR G_asked_point G_asked_answer G_halved G_Foreteller_guess G_Fo self some0 (decide ((m_Foreteller_guess self point) = there)) h.2.2) (.keep (.drop (.drop (.keep (.keep .nil))))))))
def m_Foreteller_tell (self : Fo) (point : Int) (there : Bool) : Bool := (m_Foreteller_tell_1 self point there)
def q_Foreteller_tell (po0 : Fo) (self : Fo) (point : Int) (there : Bool) : Prop := (q_asked_point (self.pts, self.sets) point) ∧ ((q_asked_answer there) ∧ (q_Foreteller_tell_1 po0 self point there (m_halved self.sets point there)))
theorem b_Foreteller_tell [CA] {X : Cx} {b : Bs} {t : Tx} {v0 : V} {dx0 : Addr} {d0 : V} {po0 : Fo} (cf : Cf X N_Foreteller_tell (defScope s_Foreteller_tell) t.mg (fun _ => true)) (at_ : At X t 20) (hb : Bl t) (hR : b.R = R_Foreteller_tell t v0 dx0 d0 po0) (G_asked_point : FnAt t "asked_point" 2 ["family", "point"] sp_asked_point) (G_asked_answer : FnAt t "asked_answer" 1 ["there"] sp_asked_answer) (G_halved : FnAt t "halved" 1 ["sets", "point", "there"] sp_halved) (G_Foreteller_guess : MethAt t CA.f "guess" 20 ["self", "point"] (sp_Foreteller_guess t)) (G_Fo : FoAt t CA.f) (self : Fo) (point : Int) (there : Bool) (h : q_Foreteller_tell po0 self point there) : XB X b false (defBody s_Foreteller_tell) [.res (objR t.P t.w CA.f (foQ self (some (v0, dx0)) (some d0))), dv false point, dv false there, .no, .no] (some (m_Foreteller_tell self point there)) [] :=
  (xb_seq (xs_drop (xe_fn cf at_ G_asked_point rfl rfl ⟨((self.pts, self.sets), point), h.1⟩ (xa_cons (xe_t2 (lv := (.st false)) (xe_foP (j := 0) (s := self) cf at_ G_Fo rfl (.inl rfl) rfl) (xe_foS (j := 0) (s := self) cf at_ G_Fo rfl (.inl rfl) rfl)) (xa_cons (xe_var cf 1 rfl (.inl rfl) rfl) xa_nil)) (.cons (k := false) (.cons (k := false) .nil))))
  (xb_seq (xs_drop (xe_fn cf at_ G_asked_answer rfl rfl ⟨there, h.2.1⟩ (xa_cons (xe_var cf 2 rfl (.inl rfl) rfl) xa_nil) (.cons (k := false) .nil)))
  (xb_seq (xs_asg (k := false) (xe_fn cf at_ G_halved rfl rfl ⟨(self.sets, point, there), trivial⟩ (xa_cons (xe_foS (j := 0) (s := self) cf at_ G_Fo rfl (.inl rfl) rfl) (xa_cons (xe_var cf 1 rfl (.inl rfl) rfl) (xa_cons (xe_var cf 2 rfl (.inl rfl) rfl) xa_nil))) (.cons (k := false) (.cons (k := false) (.cons (k := false) .nil)))) (xg_name (j := 3) cf rfl (.inl rfl) rfl))
  (xb_sub (b_Foreteller_tell_1 cf at_ hb hR G_asked_point G_asked_answer G_halved G_Foreteller_guess G_Fo self point there (m_halved self.sets point there) h.2.2) (.keep (.keep (.keep (.keep (.drop .nil)))))))))
def po_Foreteller_tell (s : Fo) (p : Int) (there : Bool) : Fo := ⟨s.pts, m_halved s.sets p there, s.wrong + cond (m_Foreteller_guess s p == there) 0 1, s.base⟩
abbrev sp_Foreteller_tell [CA] (t : Tx) : Sp := spO t.P t.w CA.f false (fun (i : {p : (Fo × Int × Bool) // q_Foreteller_tell (po_Foreteller_tell p.1 p.2.1 p.2.2) p.1 p.2.1 p.2.2}) => [dv false i.1.2.1, dv false i.1.2.2]) (fun i => foS i.1.1) (fun i => foS (po_Foreteller_tell i.1.1 i.1.2.1 i.1.2.2)) (fun i => Py.enc (m_Foreteller_tell i.1.1 i.1.2.1 i.1.2.2))
theorem ok_Foreteller_tell [CA] {t : Tx} (D : DefM t CA.f "tell" "Foreteller.tell" s_Foreteller_tell) (hb : Bl t) (G_asked_point : FnAt t "asked_point" 2 ["family", "point"] sp_asked_point) (G_asked_answer : FnAt t "asked_answer" 1 ["there"] sp_asked_answer) (G_halved : FnAt t "halved" 1 ["sets", "point", "there"] sp_halved) (G_Foreteller_guess : MethAt t CA.f "guess" 20 ["self", "point"] (sp_Foreteller_guess t)) (G_Fo : FoAt t CA.f) : MethAt t CA.f "tell" 21 ["self", "point", "there"] (sp_Foreteller_tell t) :=
  meth_defO (k := 20) D sc_Foreteller_tell (fun _ _ _ _ _ _ us hl => match us, hl with | [_, _, _], _ => rfl) (fun _ => rfl) (fun _ => ⟨rfl, rfl⟩) fun X b i v0 dx0 d0 cf at_ hR => b_Foreteller_tell (po0 := (po_Foreteller_tell i.1.1 i.1.2.1 i.1.2.2)) cf at_ hb hR G_asked_point G_asked_answer G_halved G_Foreteller_guess G_Fo i.1.1 i.1.2.1 i.1.2.2 i.2
def qx_Foreteller_tell (s : Fo) (p : Int) (b : Bool) : Prop := q_asked_point (s.pts, s.sets) p ∧ q_asked_answer b ∧ m_halved s.sets p b = []
abbrev spX_Foreteller_tell [CA] (t : Tx) : Sp := spOX t CA.f (fun (i : {p : (Fo × Int × Bool) // qx_Foreteller_tell p.1 p.2.1 p.2.2}) => [dv false i.1.2.1, dv false i.1.2.2]) (fun i => foS i.1.1)
theorem okX_Foreteller_tell [CA] {t : Tx} (D : DefM t CA.f "tell" "Foreteller.tell" s_Foreteller_tell) (hb : Bl t) (G_asked_point : FnAt t "asked_point" 2 ["family", "point"] sp_asked_point) (G_asked_answer : FnAt t "asked_answer" 1 ["there"] sp_asked_answer) (G_halved : FnAt t "halved" 1 ["sets", "point", "there"] sp_halved) (G_Fo : FoAt t CA.f) (G_Ns : ∃ D, NsAt t D) : MethAtX t CA.f "tell" 21 ["self", "point", "there"] (spX_Foreteller_tell t) :=
  meth_defOX (k := 20) D sc_Foreteller_tell (fun _ _ _ _ _ _ us hl => match us, hl with | [_, _, _], _ => rfl) (fun _ => rfl) (fun _ => rfl) G_Ns fun X b i v0 dx0 d0 Wx D0 cf at_ tk hD =>
  (xz_wk (Γ1 := [.res (objR t.P t.w CA.f (foQ i.1.1 (some (v0, dx0)) (some d0))), dv false i.1.2.1, dv false i.1.2.2, dv false (m_halved i.1.1.sets i.1.2.1 i.1.2.2), .no])
  (xz_seq (β := Unit) (rl := false) (xs_drop (xe_fn cf at_ G_asked_point rfl rfl ⟨((i.1.1.pts, i.1.1.sets), i.1.2.1), i.2.1⟩ (xa_cons (xe_t2 (lv := (.st false)) (xe_foP (j := 0) (s := i.1.1) cf at_ G_Fo rfl (.inl rfl) rfl) (xe_foS (j := 0) (s := i.1.1) cf at_ G_Fo rfl (.inl rfl) rfl)) (xa_cons (xe_var cf 1 rfl (.inl rfl) rfl) xa_nil)) (.cons (k := false) (.cons (k := false) .nil))))
  (xz_seq (β := Unit) (rl := false) (xs_drop (xe_fn cf at_ G_asked_answer rfl rfl ⟨i.1.2.2, i.2.2.1⟩ (xa_cons (xe_var cf 2 rfl (.inl rfl) rfl) xa_nil) (.cons (k := false) .nil)))
  (xz_seq (β := Unit) (rl := false) (xs_asg (k := false) (xe_fn cf at_ G_halved rfl rfl ⟨(i.1.1.sets, i.1.2.1, i.1.2.2), trivial⟩ (xa_cons (xe_foS (j := 0) (s := i.1.1) cf at_ G_Fo rfl (.inl rfl) rfl) (xa_cons (xe_var cf 1 rfl (.inl rfl) rfl) (xa_cons (xe_var cf 2 rfl (.inl rfl) rfl) xa_nil))) (.cons (k := false) (.cons (k := false) (.cons (k := false) .nil)))) (xg_name (j := 3) cf rfl (.inl rfl) rfl))
  (xz_if (xt_cmp (cv_eq (α := (List (List Int))) (n := 2) cf) (xe_var cf 3 rfl (.inl rfl) rfl) (xe_lst (lv := (.st true)) (xs := ([] : (List (List Int)))) xa_nil) rfl) (decide_eq_true i.2.2.2) (xz_raise cf at_ tk hD rfl)))))
  (.keep (.drop (.drop (.drop (.keep .nil))))))
/-! ### Foreteller.mistakes_made -/
abbrev s_Foreteller_mistakes_made : Stmt := inClass (top 20) 3
abbrev N_Foreteller_mistakes_made : List Str := ["self"]
abbrev R_Foreteller_mistakes_made [CA] (t : Tx) (v0 : V) (dx0 : Addr) (d0 : V) (po0 : Fo) : List En := [.res (objR t.P t.w CA.f (foQ po0 (some (v0, dx0)) (some d0)))]
theorem sc_Foreteller_mistakes_made : FnScope N_Foreteller_mistakes_made ["self"] (defScope s_Foreteller_mistakes_made) := ⟨rfl, rfl, rfl, by decide +kernel, rfl, by decide +kernel, by decide +kernel⟩
def m_Foreteller_mistakes_made (self : Fo) : Int := self.wrong
def q_Foreteller_mistakes_made (po0 : Fo) (self : Fo) : Prop := self = po0
theorem b_Foreteller_mistakes_made [CA] {X : Cx} {b : Bs} {t : Tx} {v0 : V} {dx0 : Addr} {d0 : V} {po0 : Fo} (cf : Cf X N_Foreteller_mistakes_made (defScope s_Foreteller_mistakes_made) t.mg (fun _ => true)) (at_ : At X t 0) (hb : Bl t) (hR : b.R = R_Foreteller_mistakes_made t v0 dx0 d0 po0) (G_Fo : FoAt t CA.f) (self : Fo) (h : q_Foreteller_mistakes_made po0 self) : XB X b false (defBody s_Foreteller_mistakes_made) [.res (objR t.P t.w CA.f (foQ self (some (v0, dx0)) (some d0)))] (some (m_Foreteller_mistakes_made self)) [] :=
  (xb_ret hR (Wk.sub (Sub.foE h .nil)) (xe_foW (j := 0) (s := self) cf at_ G_Fo rfl (.inl rfl) rfl))
abbrev sp_Foreteller_mistakes_made [CA] (t : Tx) : Sp := spO t.P t.w CA.f false (fun (i : {p : Fo // q_Foreteller_mistakes_made p p}) => []) (fun i => foS i.1) (fun i => foS i.1) (fun i => Py.enc (m_Foreteller_mistakes_made i.1))
theorem ok_Foreteller_mistakes_made [CA] {t : Tx} (D : DefM t CA.f "mistakes_made" "Foreteller.mistakes_made" s_Foreteller_mistakes_made) (hb : Bl t) (G_Fo : FoAt t CA.f) : MethAt t CA.f "mistakes_made" 1 ["self"] (sp_Foreteller_mistakes_made t) :=
  meth_defO (k := 0) D sc_Foreteller_mistakes_made (fun _ _ _ _ _ _ us hl => match us, hl with | [_], _ => rfl) (fun _ => rfl) (fun _ => ⟨rfl, rfl⟩) fun X b i v0 dx0 d0 cf at_ hR => b_Foreteller_mistakes_made (po0 := i.1) cf at_ hb hR G_Fo i.1 i.2
abbrev spP_Foreteller_mistakes_made [CA] (t : Tx) : Sp := spOP t.P t.w CA.f (fun (i : Fo × Option (V × Addr) × Option V) => foQ i.1 i.2.1 i.2.2) (fun i => Py.enc (m_Foreteller_mistakes_made i.1))
theorem okP_Foreteller_mistakes_made [CA] {t : Tx} (D : DefM t CA.f "mistakes_made" "Foreteller.mistakes_made" s_Foreteller_mistakes_made) (hb : Bl t) (G_Fo : FoAt t CA.f) : MethAt t CA.f "mistakes_made" 1 ["self"] (spP_Foreteller_mistakes_made t) :=
  meth_defP (k := 0) D sc_Foreteller_mistakes_made (fun _ _ _ _ _ _ us hl => match us, hl with | [_], _ => rfl) fun X b i cf at_ hR =>
  (xb_ret hR (Wk.sub (.drop .nil)) (xe_sc (xe_foWP (j := 0) (s := i.1) cf at_ G_Fo rfl (.inl rfl) rfl)))
/-! ### Foreteller.sets_left -/
abbrev s_Foreteller_sets_left : Stmt := inClass (top 20) 4
abbrev N_Foreteller_sets_left : List Str := ["self", "one"]
abbrev R_Foreteller_sets_left [CA] (t : Tx) (v0 : V) (dx0 : Addr) (d0 : V) (po0 : Fo) : List En := [.res (objR t.P t.w CA.f (foQ po0 (some (v0, dx0)) (some d0))), .no]
theorem sc_Foreteller_sets_left : FnScope N_Foreteller_sets_left ["self"] (defScope s_Foreteller_sets_left) := ⟨rfl, rfl, rfl, by decide +kernel, rfl, by decide +kernel, by decide +kernel⟩
def m_Foreteller_sets_left (self : Fo) : (List (List Int)) := (self.sets.map fun (one_ : (List Int)) => one_)
def q_Foreteller_sets_left (po0 : Fo) (self : Fo) : Prop := self = po0
theorem b_Foreteller_sets_left [CA] {X : Cx} {b : Bs} {t : Tx} {v0 : V} {dx0 : Addr} {d0 : V} {po0 : Fo} (cf : Cf X N_Foreteller_sets_left (defScope s_Foreteller_sets_left) t.mg (fun _ => true)) (at_ : At X t 0) (hb : Bl t) (hR : b.R = R_Foreteller_sets_left t v0 dx0 d0 po0) (G_Fo : FoAt t CA.f) (self : Fo) (h : q_Foreteller_sets_left po0 self) : XB X b true (defBody s_Foreteller_sets_left) [.res (objR t.P t.w CA.f (foQ self (some (v0, dx0)) (some d0))), .no] (some (m_Foreteller_sets_left self)) [] :=
  (xb_ret hR (Wk.sub (Sub.foE h (.drop .nil))) (xe_lcN (own := [("one", 1)]) (js := [1]) (g := fun (one_ : (List Int)) => one_) (k' := true) (Γt := fun one_ => [.res (objR t.P t.w CA.f (foQ self (some (v0, dx0)) (some d0))), dv false one_]) cf (blkOk_by (by decide +kernel)) (by decide) (xi_list (xe_foS (j := 0) (s := self) cf at_ G_Fo rfl (.inl rfl) rfl)) (fun X9 hX9 one_ hm9 => (xg_name (j := 1) (hX9.cf cf) rfl (.inl rfl) rfl)) (fun X9 hX9 one_ hm9 => (xe_callTy (hX9.cf cf) (cl_listS (lc := (.st true))) rfl hb.n_list bt_list (xa_cons (xe_var (hX9.cf cf) 1 rfl (.inl rfl) rfl) xa_nil)))))
abbrev sp_Foreteller_sets_left [CA] (t : Tx) : Sp := spO t.P t.w CA.f true (fun (i : {p : Fo // q_Foreteller_sets_left p p}) => []) (fun i => foS i.1) (fun i => foS i.1) (fun i => Py.enc (m_Foreteller_sets_left i.1))
theorem ok_Foreteller_sets_left [CA] {t : Tx} (D : DefM t CA.f "sets_left" "Foreteller.sets_left" s_Foreteller_sets_left) (hb : Bl t) (G_Fo : FoAt t CA.f) : MethAt t CA.f "sets_left" 1 ["self"] (sp_Foreteller_sets_left t) :=
  meth_defO (k := 0) D sc_Foreteller_sets_left (fun _ _ _ _ _ _ us hl => match us, hl with | [_], _ => rfl) (fun _ => rfl) (fun _ => ⟨rfl, rfl⟩) fun X b i v0 dx0 d0 cf at_ hR => b_Foreteller_sets_left (po0 := i.1) cf at_ hb hR G_Fo i.1 i.2
abbrev spP_Foreteller_sets_left [CA] (t : Tx) : Sp := spOP t.P t.w CA.f (fun (i : Fo × Option (V × Addr) × Option V) => foQ i.1 i.2.1 i.2.2) (fun i => Py.enc (m_Foreteller_sets_left i.1))
theorem okP_Foreteller_sets_left [CA] {t : Tx} (D : DefM t CA.f "sets_left" "Foreteller.sets_left" s_Foreteller_sets_left) (hb : Bl t) (G_Fo : FoAt t CA.f) : MethAt t CA.f "sets_left" 1 ["self"] (spP_Foreteller_sets_left t) :=
  meth_defP (k := 0) D sc_Foreteller_sets_left (fun _ _ _ _ _ _ us hl => match us, hl with | [_], _ => rfl) fun X b i cf at_ hR =>
  (xb_ret hR (Wk.sub (.drop (.drop .nil))) (xe_lcN (own := [("one", 1)]) (js := [1]) (g := fun (one_ : (List Int)) => one_) (k' := true) (Γt := fun one_ => [.res (objFr t.P t.w CA.f (foQ i.1 i.2.1 i.2.2)), dv false one_]) cf (blkOk_by (by decide +kernel)) (by decide) (xi_list (xe_foSP (j := 0) (s := i.1) cf at_ G_Fo rfl (.inl rfl) rfl)) (fun X9 hX9 one_ hm9 => (xg_name (j := 1) (hX9.cf cf) rfl (.inl rfl) rfl)) (fun X9 hX9 one_ hm9 => (xe_callTy (hX9.cf cf) (cl_listS (lc := (.st true))) rfl hb.n_list bt_list (xa_cons (xe_var (hX9.cf cf) 1 rfl (.inl rfl) rfl) xa_nil)))))
/-! ### _law_number -/
abbrev s_law_number : Stmt := top 22
abbrev N_law_number : List Str := ["_law_cell", "_law_at", "_law_whole", "_law_blend", "_law_more"]
abbrev R_law_number : List En := [.no, .no, .no, .no, .no]
theorem sc_law_number : FnScope N_law_number ["_law_cell", "_law_at", "_law_whole"] (defScope s_law_number) := ⟨rfl, rfl, rfl, by decide +kernel, rfl, by decide +kernel, by decide +kernel⟩
def m_law_number_1 (cell : Int) (at0 : Int) (blend : Int) : Int := ((((blend * ((cell + ((31 : Int) * at0)) + (7 : Int))) * ((blend + cell) + (5 : Int))) * ((blend * blend) + (11 : Int))) / ((1009 : Int) + at0))
def q_law_number_1 (cell : Int) (at0 : Int) (blend : Int) : Prop := ((MulOk (31 : Int) at0) ∧ (MulOk blend ((cell + ((31 : Int) * at0)) + (7 : Int)))) ∧ (((MulOk (blend * ((cell + ((31 : Int) * at0)) + (7 : Int))) ((blend + cell) + (5 : Int))) ∧ ((MulOk blend blend) ∧ (MulOk ((blend * ((cell + ((31 : Int) * at0)) + (7 : Int))) * ((blend + cell) + (5 : Int))) ((blend * blend) + (11 : Int))))) ∧ (CDivW (((blend * ((cell + ((31 : Int) * at0)) + (7 : Int))) * ((blend + cell) + (5 : Int))) * ((blend * blend) + (11 : Int))) ((1009 : Int) + at0)))
theorem b_law_number_1 [CA] {X : Cx} {b : Bs} {t : Tx} (cf : Cf X N_law_number (defScope s_law_number) t.mg (fun _ => true)) (at_ : At X t 0) (hb : Bl t) (hR : b.R = R_law_number) (cell : Int) (at0 : Int) (blend : Int) (h : q_law_number_1 cell at0 blend) : XB X b false (List.drop 2 ((defBody s_law_number))) [dv false cell, dv false at0, .no, dv true blend, .no] (some (m_law_number_1 cell at0 blend)) [] :=
  (xb_seq (xs_asg (k := true) (xe_mul (lc := (.st true)) (xe_var cf 3 rfl (.inl rfl) rfl) (xe_add (lc := .bor) (xe_add (lc := .bor) (xe_var cf 0 rfl (.inl rfl) rfl) (xe_mul (lc := .bor) (xe_int (lv := .bor)) (xe_var cf 1 rfl (.inl rfl) rfl) h.1.1)) (xe_int (lv := .bor))) h.1.2) (xg_name (j := 4) cf rfl (.inl rfl) rfl))
  (xb_ret hR (Wk.sub (.drop (.drop (.drop (.drop (.drop .nil)))))) (xe_fdiv (lc := (.st false)) (xe_mul (lc := .bor) (xe_mul (lc := .bor) (xe_var cf 4 rfl (.inl rfl) rfl) (xe_add (lc := .bor) (xe_add (lc := .bor) (xe_var cf 3 rfl (.inl rfl) rfl) (xe_var cf 0 rfl (.inl rfl) rfl)) (xe_int (lv := .bor))) h.2.1.1) (xe_add (lc := .bor) (xe_mul (lc := .bor) (xe_var cf 3 rfl (.inl rfl) rfl) (xe_var cf 3 rfl (.inl rfl) rfl) h.2.1.2.1) (xe_int (lv := .bor))) h.2.1.2.2) (xe_add (lc := .bor) (xe_int (lv := .bor)) (xe_var cf 1 rfl (.inl rfl) rfl)) h.2.2)))
def m_law_number (cell : Int) (at0 : Int) (whole : Int) : Int := (cond (decide (cell ≥ ((10 : Int) ^ ((18 : Int)).toNat))) (cell / ((1 : Int) + (at0 % (7 : Int)))) (m_law_number_1 cell at0 ((((cell + ((977 : Int) * at0)) * (48271 : Int)) + whole) % (2147483647 : Int))))
def q_law_number (cell : Int) (at0 : Int) (whole : Int) : Prop := ((decide (cell ≥ ((10 : Int) ^ ((18 : Int)).toNat))) = true → (CDivW cell ((1 : Int) + (at0 % (7 : Int))))) ∧ ((decide (cell ≥ ((10 : Int) ^ ((18 : Int)).toNat))) = false → (((MulOk (977 : Int) at0) ∧ (MulOk (cell + ((977 : Int) * at0)) (48271 : Int))) ∧ (q_law_number_1 cell at0 ((((cell + ((977 : Int) * at0)) * (48271 : Int)) + whole) % (2147483647 : Int)))))
theorem b_law_number [CA] {X : Cx} {b : Bs} {t : Tx} (cf : Cf X N_law_number (defScope s_law_number) t.mg (fun _ => true)) (at_ : At X t 0) (hb : Bl t) (hR : b.R = R_law_number) (cell : Int) (at0 : Int) (whole : Int) (h : q_law_number cell at0 whole) : XB X b false (defBody s_law_number) [dv false cell, dv false at0, dv false whole, .no, .no] (some (m_law_number cell at0 whole)) [] :=
  (xb_ifr (Γ1 := []) (xt_cmp cv_ge (xe_var cf 0 rfl (.inl rfl) rfl) (xe_pow (lc := .bor) (xe_int (lv := .bor)) (xe_int (lv := .bor)) (by refine ⟨?_, ?_, ?_⟩ <;> decide)) rfl) (fun hc12 => (xb_ret hR (Wk.sub (.drop (.drop (.drop (.drop (.drop .nil)))))) (xe_fdiv (lc := (.st false)) (xe_var cf 0 rfl (.inl rfl) rfl) (xe_add (lc := .bor) (xe_int (lv := .bor)) (xe_mod (lc := .bor) (xe_var cf 1 rfl (.inl rfl) rfl) (xe_int (lv := .bor)) (by decide))) (h.1 hc12))))
  (fun hc12 => (xb_seq (xs_asg (k := true) (xe_mod (lc := (.st true)) (xe_add (lc := .bor) (xe_mul (lc := .bor) (xe_add (lc := .bor) (xe_var cf 0 rfl (.inl rfl) rfl) (xe_mul (lc := .bor) (xe_int (lv := .bor)) (xe_var cf 1 rfl (.inl rfl) rfl) (h.2 hc12).1.1)) (xe_int (lv := .bor)) (h.2 hc12).1.2) (xe_var cf 2 rfl (.inl rfl) rfl)) (xe_int (lv := .bor)) (by decide)) (xg_name (j := 3) cf rfl (.inl rfl) rfl))
  (xb_sub (b_law_number_1 cf at_ hb hR cell at0 ((((cell + ((977 : Int) * at0)) * (48271 : Int)) + whole) % (2147483647 : Int)) ((h.2 hc12).2)) (.keep (.keep (.drop (.keep (.drop .nil)))))))))
abbrev sp_law_number [CA] : Sp := spI false (fun (i : {p : (Int × Int × Int) // q_law_number p.1 p.2.1 p.2.2}) => [dv false i.1.1, dv false i.1.2.1, dv false i.1.2.2]) (fun i => Py.enc (m_law_number i.1.1 i.1.2.1 i.1.2.2))
theorem ok_law_number [CA] {t : Tx} (D : DefAt t "_law_number" s_law_number) (hb : Bl t) : FnAt t "_law_number" 1 ["_law_cell", "_law_at", "_law_whole"] sp_law_number :=
  fn_def (k := 0) D sc_law_number (fun _ _ _ _ _ _ us hl => match us, hl with | [_, _, _], _ => rfl) (fun _ => rfl) fun X b i cf at_ hR => b_law_number cf at_ hb hR i.1.1 i.1.2.1 i.1.2.2 i.2
/-! ### _law_family -/
abbrev s_law_family : Stmt := top 23
abbrev N_law_family : List Str := ["_law_script", "_law_by", "_law_points", "_law_most", "_law_cells", "_law_whole", "_law_many", "_law_kind", "_law_found", "_law_at", "_law_number_here", "_law_some", "_law_point"]
abbrev R_law_family : List En := [.no, .no, .no, .no, .no, .no, .no, .no, .no, .no, .no, .no, .no]
theorem sc_law_family : FnScope N_law_family ["_law_script", "_law_by", "_law_points", "_law_most"] (defScope s_law_family) := ⟨rfl, rfl, rfl, by decide +kernel, rfl, by decide +kernel, by decide +kernel⟩
def m_law_family_7 (found : (List (List Int))) (some0 : (List Int)) : (List (List Int)) := (cond (!memB some0 found) (found ++ [some0]) found)
def q_law_family_7 (found : (List (List Int))) (some0 : (List Int)) : Prop := (!memB some0 found) = true → ((found).length < 1000000)
theorem b_law_family_7 [CA] {X : Cx} {b : Bs} {t : Tx} (cf : Cf X N_law_family (defScope s_law_family) t.mg (fun _ => true)) (at_ : At X t 1) (hb : Bl t) (hR : b.R = R_law_family) (G_law_number : FnAt t "_law_number" 1 ["_law_cell", "_law_at", "_law_whole"] sp_law_number) (by0 : Int) (cells : (List Int)) (whole : Int) (many : Int) (kind : Int) (found : (List (List Int))) (some0 : (List Int)) (s1 : (List (List Int))) (at0 : Int) (h : q_law_family_7 found some0) : XB X b true (List.drop 5 (stB (stN ((defBody s_law_family)) 4))) [.no, dv false by0, .no, .no, dv false cells, dv true whole, dv true many, dv true kind, rv (List Int) true found, .no, .no, dv true some0, .no] (none : Option (Int × (List (List Int)))) ((fun (s1 : (List (List Int))) => [.no, dv false by0, .no, .no, dv false cells, dv true whole, dv true many, dv true kind, rv (List Int) true s1, .no, .no, .no, .no]) (m_law_family_7 found some0)) :=
  (xb_seq (xs_ifE (Γ' := fun (hcB : Bool) => [.no, dv false by0, .no, .no, dv false cells, dv true whole, dv true many, dv true kind, rv (List Int) true (cond hcB (found ++ [some0]) found), .no, .no, .no, .no]) (xt_cmp (cv_ni (α := (List Int)) (n := 1) cf) (xe_var cf 11 rfl (.inl rfl) rfl) (xe_own cf (i := 8) rfl (.inl rfl) rfl) rfl) (fun hc13 => (xb_endW (xb_seq (xs_app (j := 8) (k := true) cf rfl (.inl rfl) rfl (xe_var cf 11 rfl (.inl rfl) rfl) (h hc13))
  xb_nil) (Wk.sub (.drop (.keep (.drop (.drop (.keep (.keep (.keep (.keep (.keep (.drop (.drop (.drop (.drop .nil)))))))))))))))) (fun hc13 => (xb_endW xb_nil (Wk.sub (.drop (.keep (.drop (.drop (.keep (.keep (.keep (.keep (.keep (.drop (.drop (.drop (.drop .nil)))))))))))))))))
  (xb_end xb_nil (.drop (.keep (.drop (.drop (.keep (.keep (.keep (.keep (.keep (.drop (.drop (.drop (.drop .nil)))))))))))))))
def m_law_family_6 (many : Int) (kind : Int) (found : (List (List Int))) (at0 : Int) (some0 : (List Int)) : (List (List Int)) := (m_law_family_7 found (cond (decide (kind = (3 : Int))) ((rg 0 ((min many (3 : Int))).toNat).filter fun (point_ : Int) => (decide ((Builtin.bitAnd (at0 / 2 ^ (point_).toNat) (1 : Int)) = (1 : Int)))) some0))
def q_law_family_6 (many : Int) (kind : Int) (found : (List (List Int))) (at0 : Int) (some0 : (List Int)) : Prop := ((decide (kind = (3 : Int))) = true → ((-1000000 ≤ (min many (3 : Int)) ∧ (min many (3 : Int)) ≤ 1000000) ∧ (∀ point_, point_ ∈ (rg 0 ((min many (3 : Int))).toNat) → (0 ≤ point_)))) ∧ (q_law_family_7 found (cond (decide (kind = (3 : Int))) ((rg 0 ((min many (3 : Int))).toNat).filter fun (point_ : Int) => (decide ((Builtin.bitAnd (at0 / 2 ^ (point_).toNat) (1 : Int)) = (1 : Int)))) some0))
theorem b_law_family_6 [CA] {X : Cx} {b : Bs} {t : Tx} (cf : Cf X N_law_family (defScope s_law_family) t.mg (fun _ => true)) (at_ : At X t 1) (hb : Bl t) (hR : b.R = R_law_family) (G_law_number : FnAt t "_law_number" 1 ["_law_cell", "_law_at", "_law_whole"] sp_law_number) (by0 : Int) (cells : (List Int)) (whole : Int) (many : Int) (kind : Int) (found : (List (List Int))) (at0 : Int) (some0 : (List Int)) (s1 : (List (List Int))) (h : q_law_family_6 many kind found at0 some0) : XB X b true (List.drop 4 (stB (stN ((defBody s_law_family)) 4))) [.no, dv false by0, .no, .no, dv false cells, dv true whole, dv true many, dv true kind, rv (List Int) true found, dv true at0, .no, dv true some0, .no] (none : Option (Int × (List (List Int)))) ((fun (s1 : (List (List Int))) => [.no, dv false by0, .no, .no, dv false cells, dv true whole, dv true many, dv true kind, rv (List Int) true s1, .no, .no, .no, .no]) (m_law_family_6 many kind found at0 some0)) :=
  (xb_seq (xs_ifE (Γ' := fun (hcB : Bool) => [.no, dv false by0, .no, .no, dv false cells, dv true whole, dv true many, dv true kind, rv (List Int) true found, .no, .no, dv true (cond hcB ((rg 0 ((min many (3 : Int))).toNat).filter fun (point_ : Int) => (decide ((Builtin.bitAnd (at0 / 2 ^ (point_).toNat) (1 : Int)) = (1 : Int)))) some0), .no]) (xt_cmp (cv_eq (α := Int) (n := 0) cf) (xe_var cf 7 rfl (.inl rfl) rfl) (xe_int (lv := .bor)) rfl) (fun hc14 => (xb_endW (xb_seq (xs_lcE (xs_lc (own := [("_law_point", 12)]) (js := [12]) (f := fun (point_ : Int) => (decide ((Builtin.bitAnd (at0 / 2 ^ (point_).toNat) (1 : Int)) = (1 : Int)))) (g := fun (point_ : Int) => point_) (k' := true) (Γt := fun point_ => [.no, dv false by0, .no, .no, dv false cells, dv true whole, dv true many, dv true kind, rv (List Int) true found, dv true at0, .no, dv true some0, dv true point_]) cf (i := 11) rfl rfl rfl rfl (by decide +kernel) (blkOk_by (by decide +kernel)) (by decide) (xi_range1 cf (xe_callB cf (lc := .bor) (cl_min2 cf) rfl hb.n_min bt_min (xa_cons (xe_var cf 6 rfl (.inl rfl) rfl) (xa_cons (xe_int (lv := .bor)) xa_nil))) (h.1 hc14).1 rfl hb.n_range) (fun X11 hX11 point_ hm11 => (xg_name (j := 12) (hX11.cf cf) rfl (.inl rfl) rfl)) (fun X11 hX11 point_ hm11 => xts_one (xt_cmp (cv_eq (α := Int) (n := 0) (hX11.cf cf)) (xe_and (lc := .bor) (xe_shr (lc := .bor) (xe_var (hX11.cf cf) 9 rfl (.inr (.inl rfl)) rfl) (xe_var (hX11.cf cf) 12 rfl (.inl rfl) rfl) ((h.1 hc14).2 point_ hm11)) (xe_int (lv := .bor))) (xe_int (lv := .bor)) rfl)) (fun X11 hX11 point_ hm11 hf11 => (xe_var (hX11.cf cf) 12 rfl (.inl rfl) rfl))) (List.map_id' _))
  xb_nil) (Wk.sub (.drop (.keep (.drop (.drop (.keep (.keep (.keep (.keep (.keep (.drop (.drop (.keep (.drop .nil)))))))))))))))) (fun hc14 => (xb_endW xb_nil (Wk.sub (.drop (.keep (.drop (.drop (.keep (.keep (.keep (.keep (.keep (.drop (.drop (.keep (.drop .nil)))))))))))))))))
  (xb_sub (b_law_family_7 cf at_ hb hR G_law_number by0 cells whole many kind found (cond (decide (kind = (3 : Int))) ((rg 0 ((min many (3 : Int))).toNat).filter fun (point_ : Int) => (decide ((Builtin.bitAnd (at0 / 2 ^ (point_).toNat) (1 : Int)) = (1 : Int)))) some0) s1 at0 h.2) (.drop (.keep (.drop (.drop (.keep (.keep (.keep (.keep (.keep (.drop (.drop (.keep (.drop .nil)))))))))))))))
def m_law_family_5 (many : Int) (kind : Int) (found : (List (List Int))) (at0 : Int) (some0 : (List Int)) : (List (List Int)) := (m_law_family_6 many kind found at0 (cond (decide (kind = (2 : Int))) (cond (decide (at0 < many)) ([(at0 % many)] : (List Int)) some0) some0))
def q_law_family_5 (many : Int) (kind : Int) (found : (List (List Int))) (at0 : Int) (some0 : (List Int)) : Prop := ((decide (kind = (2 : Int))) = true → ((decide (at0 < many)) = true → (0 < many))) ∧ (q_law_family_6 many kind found at0 (cond (decide (kind = (2 : Int))) (cond (decide (at0 < many)) ([(at0 % many)] : (List Int)) some0) some0))
theorem b_law_family_5 [CA] {X : Cx} {b : Bs} {t : Tx} (cf : Cf X N_law_family (defScope s_law_family) t.mg (fun _ => true)) (at_ : At X t 1) (hb : Bl t) (hR : b.R = R_law_family) (G_law_number : FnAt t "_law_number" 1 ["_law_cell", "_law_at", "_law_whole"] sp_law_number) (by0 : Int) (cells : (List Int)) (whole : Int) (many : Int) (kind : Int) (found : (List (List Int))) (at0 : Int) (some0 : (List Int)) (s1 : (List (List Int))) (h : q_law_family_5 many kind found at0 some0) : XB X b true (List.drop 3 (stB (stN ((defBody s_law_family)) 4))) [.no, dv false by0, .no, .no, dv false cells, dv true whole, dv true many, dv true kind, rv (List Int) true found, dv true at0, .no, dv true some0, .no] (none : Option (Int × (List (List Int)))) ((fun (s1 : (List (List Int))) => [.no, dv false by0, .no, .no, dv false cells, dv true whole, dv true many, dv true kind, rv (List Int) true s1, .no, .no, .no, .no]) (m_law_family_5 many kind found at0 some0)) :=
  (xb_seq (xs_ifE (Γ' := fun (hcB : Bool) => [.no, dv false by0, .no, .no, dv false cells, dv true whole, dv true many, dv true kind, rv (List Int) true found, dv true at0, .no, dv true (cond hcB (cond (decide (at0 < many)) ([(at0 % many)] : (List Int)) some0) some0), .no]) (xt_cmp (cv_eq (α := Int) (n := 0) cf) (xe_var cf 7 rfl (.inl rfl) rfl) (xe_int (lv := .bor)) rfl) (fun hc15 => (xb_endW (xb_seq (xs_asg (k := true) (xe_if (xt_cmp cv_lt (xe_var cf 9 rfl (.inr (.inl rfl)) rfl) (xe_var cf 6 rfl (.inl rfl) rfl) rfl) (fun hc16 => (xe_lst (lv := (.st true)) (xs := ([(at0 % many)] : (List Int))) (xa_cons (xe_mod (lc := (.st true)) (xe_var cf 9 rfl (.inr (.inl rfl)) rfl) (xe_var cf 6 rfl (.inl rfl) rfl) ((h.1 hc15) hc16)) xa_nil))) (fun hc16 => (xe_var cf 11 rfl (.inl rfl) rfl))) (xg_name (j := 11) cf rfl (.inl rfl) rfl))
  xb_nil) (Wk.sub (.drop (.keep (.drop (.drop (.keep (.keep (.keep (.keep (.keep (.keep (.drop (.keep (.drop .nil)))))))))))))))) (fun hc15 => (xb_endW xb_nil (Wk.sub (.drop (.keep (.drop (.drop (.keep (.keep (.keep (.keep (.keep (.keep (.drop (.keep (.drop .nil)))))))))))))))))
  (xb_sub (b_law_family_6 cf at_ hb hR G_law_number by0 cells whole many kind found at0 (cond (decide (kind = (2 : Int))) (cond (decide (at0 < many)) ([(at0 % many)] : (List Int)) some0) some0) s1 h.2) (.drop (.keep (.drop (.drop (.keep (.keep (.keep (.keep (.keep (.keep (.drop (.keep (.drop .nil)))))))))))))))
def m_law_family_4 (many : Int) (kind : Int) (found : (List (List Int))) (at0 : Int) (some0 : (List Int)) : (List (List Int)) := (m_law_family_5 many kind found at0 (cond (decide (kind = (1 : Int))) (rg 0 ((at0 % (many + (1 : Int)))).toNat) some0))
def q_law_family_4 (many : Int) (kind : Int) (found : (List (List Int))) (at0 : Int) (some0 : (List Int)) : Prop := ((decide (kind = (1 : Int))) = true → ((0 < (many + (1 : Int))) ∧ (-1000000 ≤ (at0 % (many + (1 : Int))) ∧ (at0 % (many + (1 : Int))) ≤ 1000000))) ∧ (q_law_family_5 many kind found at0 (cond (decide (kind = (1 : Int))) (rg 0 ((at0 % (many + (1 : Int)))).toNat) some0))
theorem b_law_family_4 [CA] {X : Cx} {b : Bs} {t : Tx} (cf : Cf X N_law_family (defScope s_law_family) t.mg (fun _ => true)) (at_ : At X t 1) (hb : Bl t) (hR : b.R = R_law_family) (G_law_number : FnAt t "_law_number" 1 ["_law_cell", "_law_at", "_law_whole"] sp_law_number) (by0 : Int) (cells : (List Int)) (whole : Int) (many : Int) (kind : Int) (found : (List (List Int))) (at0 : Int) (some0 : (List Int)) (s1 : (List (List Int))) (h : q_law_family_4 many kind found at0 some0) : XB X b true (List.drop 2 (stB (stN ((defBody s_law_family)) 4))) [.no, dv false by0, .no, .no, dv false cells, dv true whole, dv true many, dv true kind, rv (List Int) true found, dv true at0, .no, dv true some0, .no] (none : Option (Int × (List (List Int)))) ((fun (s1 : (List (List Int))) => [.no, dv false by0, .no, .no, dv false cells, dv true whole, dv true many, dv true kind, rv (List Int) true s1, .no, .no, .no, .no]) (m_law_family_4 many kind found at0 some0)) :=
  (xb_seq (xs_ifE (Γ' := fun (hcB : Bool) => [.no, dv false by0, .no, .no, dv false cells, dv true whole, dv true many, dv true kind, rv (List Int) true found, dv true at0, .no, dv true (cond hcB (rg 0 ((at0 % (many + (1 : Int)))).toNat) some0), .no]) (xt_cmp (cv_eq (α := Int) (n := 0) cf) (xe_var cf 7 rfl (.inl rfl) rfl) (xe_int (lv := .bor)) rfl) (fun hc17 => (xb_endW (xb_seq (xs_asg (k := true) (xe_listRg cf (lv := (.st true)) rfl hb.n_list hb.n_range rfl (xe_mod (lc := .bor) (xe_var cf 9 rfl (.inr (.inl rfl)) rfl) (xe_add (lc := .bor) (xe_var cf 6 rfl (.inl rfl) rfl) (xe_int (lv := .bor))) (h.1 hc17).1) (h.1 hc17).2) (xg_name (j := 11) cf rfl (.inl rfl) rfl))
  xb_nil) (Wk.sub (.drop (.keep (.drop (.drop (.keep (.keep (.keep (.keep (.keep (.keep (.drop (.keep (.drop .nil)))))))))))))))) (fun hc17 => (xb_endW xb_nil (Wk.sub (.drop (.keep (.drop (.drop (.keep (.keep (.keep (.keep (.keep (.keep (.drop (.keep (.drop .nil)))))))))))))))))
  (xb_sub (b_law_family_5 cf at_ hb hR G_law_number by0 cells whole many kind found at0 (cond (decide (kind = (1 : Int))) (rg 0 ((at0 % (many + (1 : Int)))).toNat) some0) s1 h.2) (.drop (.keep (.drop (.drop (.keep (.keep (.keep (.keep (.keep (.keep (.drop (.keep (.drop .nil)))))))))))))))
def m_law_family_l1 (by0 : Int) (cells : (List Int)) (whole : Int) (many : Int) (kind : Int) (s1 : (List (List Int))) (at0 : Int) : (List (List Int)) := (m_law_family_4 many kind s1 at0 ((rg 0 (many).toNat).filter fun (point_ : Int) => (decide ((Builtin.bitAnd (((m_law_number (getL cells ((at0 + by0) % ((cells).length : Int))) (at0 + by0) whole) / (3 : Int)) / 2 ^ (point_).toNat) (1 : Int)) = (1 : Int)))))
def q_law_family_l1 (by0 : Int) (cells : (List Int)) (whole : Int) (many : Int) (kind : Int) (s1 : (List (List Int))) (at0 : Int) : Prop := (((0 < ((cells).length : Int)) ∧ (InL cells ((at0 + by0) % ((cells).length : Int)))) ∧ (q_law_number (getL cells ((at0 + by0) % ((cells).length : Int))) (at0 + by0) whole)) ∧ (((-1000000 ≤ many ∧ many ≤ 1000000) ∧ (∀ point_, point_ ∈ (rg 0 (many).toNat) → (0 ≤ point_))) ∧ (q_law_family_4 many kind s1 at0 ((rg 0 (many).toNat).filter fun (point_ : Int) => (decide ((Builtin.bitAnd (((m_law_number (getL cells ((at0 + by0) % ((cells).length : Int))) (at0 + by0) whole) / (3 : Int)) / 2 ^ (point_).toNat) (1 : Int)) = (1 : Int))))))
theorem b_law_family_l1 [CA] {X : Cx} {b : Bs} {t : Tx} (cf : Cf X N_law_family (defScope s_law_family) t.mg (fun _ => true)) (at_ : At X t 1) (hb : Bl t) (hR : b.R = R_law_family) (G_law_number : FnAt t "_law_number" 1 ["_law_cell", "_law_at", "_law_whole"] sp_law_number) (by0 : Int) (cells : (List Int)) (whole : Int) (many : Int) (kind : Int) (s1 : (List (List Int))) (at0 : Int) (h : q_law_family_l1 by0 cells whole many kind s1 at0) : XB X b true (stB (stN ((defBody s_law_family)) 4)) [.no, dv false by0, .no, .no, dv false cells, dv true whole, dv true many, dv true kind, rv (List Int) true s1, dv true at0, .no, .no, .no] (none : Option (Int × (List (List Int)))) ((fun (s1 : (List (List Int))) => [.no, dv false by0, .no, .no, dv false cells, dv true whole, dv true many, dv true kind, rv (List Int) true s1, .no, .no, .no, .no]) (m_law_family_l1 by0 cells whole many kind s1 at0)) :=
  (xb_seq (xs_asg (k := true) (xe_fdiv (lc := (.st true)) (xe_fn cf at_ G_law_number rfl rfl ⟨((getL cells ((at0 + by0) % ((cells).length : Int))), (at0 + by0), whole), h.1.2⟩ (xa_cons (xe_sc (xe_ixL (xe_var cf 4 rfl (.inl rfl) rfl) (xe_mod (lc := .bor) (xe_add (lc := .bor) (xe_var cf 9 rfl (.inr (.inl rfl)) rfl) (xe_var cf 1 rfl (.inl rfl) rfl)) (xe_callB cf (lc := .bor) cl_len rfl hb.n_len bt_len (xa_cons (xe_var cf 4 rfl (.inl rfl) rfl) xa_nil)) h.1.1.1) (getL_at h.1.1.2) (fun _ _ => rfl))) (xa_cons (xe_add (lc := (.st false)) (xe_var cf 9 rfl (.inr (.inl rfl)) rfl) (xe_var cf 1 rfl (.inl rfl) rfl)) (xa_cons (xe_sc (xe_var cf 5 rfl (.inl rfl) rfl)) xa_nil))) (.cons (k := false) (.cons (k := false) (.cons (k := false) .nil)))) (xe_int (lv := .bor)) (by constructor <;> decide)) (xg_name (j := 10) cf rfl (.inr rfl) rfl))
  (xb_seq (xs_lcE (xs_lc (own := [("_law_point", 12)]) (js := [12]) (f := fun (point_ : Int) => (decide ((Builtin.bitAnd (((m_law_number (getL cells ((at0 + by0) % ((cells).length : Int))) (at0 + by0) whole) / (3 : Int)) / 2 ^ (point_).toNat) (1 : Int)) = (1 : Int)))) (g := fun (point_ : Int) => point_) (k' := true) (Γt := fun point_ => [.no, dv false by0, .no, .no, dv false cells, dv true whole, dv true many, dv true kind, rv (List Int) true s1, dv true at0, dv true ((m_law_number (getL cells ((at0 + by0) % ((cells).length : Int))) (at0 + by0) whole) / (3 : Int)), .no, dv true point_]) cf (i := 11) rfl rfl rfl rfl (by decide +kernel) (blkOk_by (by decide +kernel)) (by decide) (xi_range1 cf (xe_var cf 6 rfl (.inl rfl) rfl) h.2.1.1 rfl hb.n_range) (fun X10 hX10 point_ hm10 => (xg_name (j := 12) (hX10.cf cf) rfl (.inl rfl) rfl)) (fun X10 hX10 point_ hm10 => xts_one (xt_cmp (cv_eq (α := Int) (n := 0) (hX10.cf cf)) (xe_and (lc := .bor) (xe_shr (lc := .bor) (xe_var (hX10.cf cf) 10 rfl (.inr (.inl rfl)) rfl) (xe_var (hX10.cf cf) 12 rfl (.inl rfl) rfl) (h.2.1.2 point_ hm10)) (xe_int (lv := .bor))) (xe_int (lv := .bor)) rfl)) (fun X10 hX10 point_ hm10 hf10 => (xe_var (hX10.cf cf) 12 rfl (.inl rfl) rfl))) (List.map_id' _))
  (xb_sub (b_law_family_4 cf at_ hb hR G_law_number by0 cells whole many kind s1 at0 ((rg 0 (many).toNat).filter fun (point_ : Int) => (decide ((Builtin.bitAnd (((m_law_number (getL cells ((at0 + by0) % ((cells).length : Int))) (at0 + by0) whole) / (3 : Int)) / 2 ^ (point_).toNat) (1 : Int)) = (1 : Int)))) s1 h.2.2) (.drop (.keep (.drop (.drop (.keep (.keep (.keep (.keep (.keep (.keep (.drop (.keep (.drop .nil))))))))))))))))
def m_law_family_3 (by0 : Int) (most : Int) (cells : (List Int)) (whole : Int) (many : Int) (kind : Int) : (Int × (List (List Int))) := (many, ((rg 0 (((1 : Int) + ((whole / (3 : Int)) % most))).toNat).foldl (m_law_family_l1 by0 cells whole many kind) ([] : (List (List Int)))))
def q_law_family_3 (by0 : Int) (most : Int) (cells : (List Int)) (whole : Int) (many : Int) (kind : Int) : Prop := ((0 < most) ∧ (-1000000 ≤ ((1 : Int) + ((whole / (3 : Int)) % most)) ∧ ((1 : Int) + ((whole / (3 : Int)) % most)) ≤ 1000000)) ∧ (∀ (i : Nat) (s1 : (List (List Int))) (at0 : Int), (rg 0 (((1 : Int) + ((whole / (3 : Int)) % most))).toNat)[i]? = some at0 → ((rg 0 (((1 : Int) + ((whole / (3 : Int)) % most))).toNat).take i).foldl (m_law_family_l1 by0 cells whole many kind) ([] : (List (List Int))) = s1 → q_law_family_l1 by0 cells whole many kind s1 at0)
theorem b_law_family_3 [CA] {X : Cx} {b : Bs} {t : Tx} (cf : Cf X N_law_family (defScope s_law_family) t.mg (fun _ => true)) (at_ : At X t 1) (hb : Bl t) (hR : b.R = R_law_family) (G_law_number : FnAt t "_law_number" 1 ["_law_cell", "_law_at", "_law_whole"] sp_law_number) (by0 : Int) (most : Int) (cells : (List Int)) (whole : Int) (many : Int) (kind : Int) (h : q_law_family_3 by0 most cells whole many kind) : XB X b true (List.drop 3 ((defBody s_law_family))) [.no, dv false by0, .no, dv false most, dv false cells, dv true whole, dv true many, dv true kind, .no, .no, .no, .no, .no] (some (m_law_family_3 by0 most cells whole many kind)) [] :=
  (xb_seq (xs_new (j := 8) cf rfl (.inl rfl) rfl (List Int))
  (xb_seq (xs_forN (Γs := (fun (s1 : (List (List Int))) => [.no, dv false by0, .no, .no, dv false cells, dv true whole, dv true many, dv true kind, rv (List Int) true s1, .no, .no, .no, .no])) (Γt := (fun (s1 : (List (List Int))) (at0 : Int) => [.no, dv false by0, .no, .no, dv false cells, dv true whole, dv true many, dv true kind, rv (List Int) true s1, dv true at0, .no, .no, .no])) (step := (m_law_family_l1 by0 cells whole many kind)) (js := [9]) (fun i s1 => ((rg 0 (((1 : Int) + ((whole / (3 : Int)) % most))).toNat).take i).foldl (m_law_family_l1 by0 cells whole many kind) ([] : (List (List Int))) = s1) ([] : (List (List Int))) cf (xi_range1 cf (xe_add (lc := .bor) (xe_int (lv := .bor)) (xe_mod (lc := .bor) (xe_fdiv (lc := .bor) (xe_var cf 5 rfl (.inl rfl) rfl) (xe_int (lv := .bor)) (by constructor <;> decide)) (xe_var cf 3 rfl (.inl rfl) rfl) h.1.1)) h.1.2 rfl hb.n_range) (.drop (.keep (.drop (.drop (.keep (.keep (.keep (.keep (.keep (.drop (.drop (.drop (.drop .nil))))))))))))) rfl (fun s1 at0 _ => (xg_name (j := 9) cf rfl (.inr rfl) rfl)) (fun i s1 at0 hx hi => (b_law_family_l1 cf at_ hb hR G_law_number by0 cells whole many kind s1 at0 (h.2 i s1 at0 hx hi))) (foldl_Iv _ _ _))
  (xb_freeze (j := 8) rfl (xb_ret hR (Wk.sub (.drop (.drop (.drop (.drop (.drop (.drop (.drop (.drop (.drop (.drop (.drop (.drop (.drop .nil)))))))))))))) (xe_t2 (lv := (.st true)) (xe_var cf 6 rfl (.inl rfl) rfl) (xe_var cf 8 rfl (.inl rfl) rfl))))))
def m_law_family_2 (by0 : Int) (points : Int) (most : Int) (cells : (List Int)) (whole : Int) : (Int × (List (List Int))) := (m_law_family_3 by0 most cells whole ((1 : Int) + (whole % points)) ((whole / points) % (5 : Int)))
def q_law_family_2 (by0 : Int) (points : Int) (most : Int) (cells : (List Int)) (whole : Int) : Prop := ((0 < points) ∧ (CDivW whole points)) ∧ (q_law_family_3 by0 most cells whole ((1 : Int) + (whole % points)) ((whole / points) % (5 : Int)))
theorem b_law_family_2 [CA] {X : Cx} {b : Bs} {t : Tx} (cf : Cf X N_law_family (defScope s_law_family) t.mg (fun _ => true)) (at_ : At X t 1) (hb : Bl t) (hR : b.R = R_law_family) (G_law_number : FnAt t "_law_number" 1 ["_law_cell", "_law_at", "_law_whole"] sp_law_number) (by0 : Int) (points : Int) (most : Int) (cells : (List Int)) (whole : Int) (h : q_law_family_2 by0 points most cells whole) : XB X b true (List.drop 2 ((defBody s_law_family))) [.no, dv false by0, dv false points, dv false most, dv false cells, dv true whole, .no, .no, .no, .no, .no, .no, .no] (some (m_law_family_2 by0 points most cells whole)) [] :=
  (xb_seq (xs_par (i := 6) (j := 7) cf rfl rfl (by decide) rfl rfl (k := true) (k' := true) (xe_add (lc := (.st true)) (xe_int (lv := .bor)) (xe_mod (lc := .bor) (xe_var cf 5 rfl (.inl rfl) rfl) (xe_var cf 2 rfl (.inl rfl) rfl) h.1.1)) (xe_mod (lc := (.st true)) (xe_fdiv (lc := .bor) (xe_var cf 5 rfl (.inl rfl) rfl) (xe_var cf 2 rfl (.inl rfl) rfl) h.1.2) (xe_int (lv := .bor)) (by decide)) (swap2 cf rfl rfl rfl rfl (by decide +kernel) ⟨rfl, rfl⟩ rfl rfl))
  (xb_sub (b_law_family_3 cf at_ hb hR G_law_number by0 most cells whole ((1 : Int) + (whole % points)) ((whole / points) % (5 : Int)) h.2) (.drop (.keep (.drop (.keep (.keep (.keep (.keep (.keep (.drop (.drop (.drop (.drop (.drop .nil)))))))))))))))
def m_law_family_1 (by0 : Int) (points : Int) (most : Int) (cells : (List Int)) : (Int × (List (List Int))) := (m_law_family_2 by0 points most cells ((((cells).sum).natAbs : Int) + by0))
def q_law_family_1 (by0 : Int) (points : Int) (most : Int) (cells : (List Int)) : Prop := q_law_family_2 by0 points most cells ((((cells).sum).natAbs : Int) + by0)
theorem b_law_family_1 [CA] {X : Cx} {b : Bs} {t : Tx} (cf : Cf X N_law_family (defScope s_law_family) t.mg (fun _ => true)) (at_ : At X t 1) (hb : Bl t) (hR : b.R = R_law_family) (G_law_number : FnAt t "_law_number" 1 ["_law_cell", "_law_at", "_law_whole"] sp_law_number) (by0 : Int) (points : Int) (most : Int) (cells : (List Int)) (h : q_law_family_1 by0 points most cells) : XB X b true (List.drop 1 ((defBody s_law_family))) [.no, dv false by0, dv false points, dv false most, dv false cells, .no, .no, .no, .no, .no, .no, .no, .no] (some (m_law_family_1 by0 points most cells)) [] :=
  (xb_seq (xs_asg (k := true) (xe_add (lc := (.st true)) (xe_callB cf (lc := .bor) cl_abs rfl hb.n_abs bt_abs (xa_cons (xe_callB cf (lc := .bor) (cl_sum cf) rfl hb.n_sum bt_sum (xa_cons (xe_var cf 4 rfl (.inl rfl) rfl) xa_nil)) xa_nil)) (xe_var cf 1 rfl (.inl rfl) rfl)) (xg_name (j := 5) cf rfl (.inl rfl) rfl))
  (xb_sub (b_law_family_2 cf at_ hb hR G_law_number by0 points most cells ((((cells).sum).natAbs : Int) + by0) h) (.drop (.keep (.keep (.keep (.keep (.keep (.drop (.drop (.drop (.drop (.drop (.drop (.drop .nil)))))))))))))))
def m_law_family (script : (List Int)) (by0 : Int) (points : Int) (most : Int) : (Int × (List (List Int))) := (m_law_family_1 by0 points most (cond (!decide (script = ([] : (List Int)))) (cutL script none (some (63 : Int))) ([(3 : Int)] : (List Int))))
def q_law_family (script : (List Int)) (by0 : Int) (points : Int) (most : Int) : Prop := q_law_family_1 by0 points most (cond (!decide (script = ([] : (List Int)))) (cutL script none (some (63 : Int))) ([(3 : Int)] : (List Int)))
theorem b_law_family [CA] {X : Cx} {b : Bs} {t : Tx} (cf : Cf X N_law_family (defScope s_law_family) t.mg (fun _ => true)) (at_ : At X t 1) (hb : Bl t) (hR : b.R = R_law_family) (G_law_number : FnAt t "_law_number" 1 ["_law_cell", "_law_at", "_law_whole"] sp_law_number) (script : (List Int)) (by0 : Int) (points : Int) (most : Int) (h : q_law_family script by0 points most) : XB X b true (defBody s_law_family) [dv false script, dv false by0, dv false points, dv false most, .no, .no, .no, .no, .no, .no, .no, .no, .no] (some (m_law_family script by0 points most)) [] :=
  (xb_seq (xs_asg (k := false) (xe_if (xt_cmp (cv_ne (α := (List Int)) (n := 1) cf) (xe_var cf 0 rfl (.inl rfl) rfl) (xe_lst (lv := (.st true)) (xs := ([] : (List Int))) xa_nil) rfl) (fun hc18 => (xe_sl (xe_var cf 0 rfl (.inl rfl) rfl) xo_none (xo_some (xe_int (lv := .bor))))) (fun hc18 => (xe_lst (lv := (.st false)) (xs := ([(3 : Int)] : (List Int))) (xa_cons (xe_int (lv := (.st false))) xa_nil)))) (xg_name (j := 4) cf rfl (.inl rfl) rfl))
  (xb_sub (b_law_family_1 cf at_ hb hR G_law_number by0 points most (cond (!decide (script = ([] : (List Int)))) (cutL script none (some (63 : Int))) ([(3 : Int)] : (List Int))) h) (.drop (.keep (.keep (.keep (.keep (.drop (.drop (.drop (.drop (.drop (.drop (.drop (.drop .nil)))))))))))))))
abbrev sp_law_family [CA] : Sp := spI true (fun (i : {p : ((List Int) × Int × Int × Int) // q_law_family p.1 p.2.1 p.2.2.1 p.2.2.2}) => [dv false i.1.1, dv false i.1.2.1, dv false i.1.2.2.1, dv false i.1.2.2.2]) (fun i => Py.enc (m_law_family i.1.1 i.1.2.1 i.1.2.2.1 i.1.2.2.2))
theorem ok_law_family [CA] {t : Tx} (D : DefAt t "_law_family" s_law_family) (hb : Bl t) (G_law_number : FnAt t "_law_number" 1 ["_law_cell", "_law_at", "_law_whole"] sp_law_number) : FnAt t "_law_family" 2 ["_law_script", "_law_by", "_law_points", "_law_most"] sp_law_family :=
  fn_def (k := 1) D sc_law_family (fun _ _ _ _ _ _ us hl => match us, hl with | [_, _, _, _], _ => rfl) (fun _ => rfl) fun X b i cf at_ hR => b_law_family cf at_ hb hR G_law_number i.1.1 i.1.2.1 i.1.2.2.1 i.1.2.2.2 i.2
/-! ### _law_copied -/
abbrev s_law_copied : Stmt := top 24
abbrev N_law_copied : List Str := ["_law_family_here", "_law_one"]
abbrev R_law_copied : List En := [.no, .no]
theorem sc_law_copied : FnScope N_law_copied ["_law_family_here"] (defScope s_law_copied) := ⟨rfl, rfl, rfl, by decide +kernel, rfl, by decide +kernel, by decide +kernel⟩
def m_law_copied (family_here : (Int × (List (List Int)))) : (Int × (List (List Int))) := (family_here.1, (family_here.2.map fun (one_ : (List Int)) => one_))
theorem b_law_copied [CA] {X : Cx} {b : Bs} {t : Tx} (cf : Cf X N_law_copied (defScope s_law_copied) t.mg (fun _ => true)) (at_ : At X t 0) (hb : Bl t) (hR : b.R = R_law_copied) (family_here : (Int × (List (List Int)))) : XB X b true (defBody s_law_copied) [dv false family_here, .no] (some (m_law_copied family_here)) [] :=
  (xb_ret hR (Wk.sub (.drop (.drop .nil))) (xe_t2 (lv := (.st true)) (xe_sc (xe_fst (xe_var cf 0 rfl (.inl rfl) rfl) (fun _ _ => rfl))) (xe_lcN (own := [("_law_one", 1)]) (js := [1]) (g := fun (one_ : (List Int)) => one_) (k' := true) (Γt := fun one_ => [dv false family_here, dv false one_]) cf (blkOk_by (by decide +kernel)) (by decide) (xi_list (xe_snd (xe_var cf 0 rfl (.inl rfl) rfl) (fun _ _ => rfl))) (fun X12 hX12 one_ hm12 => (xg_name (j := 1) (hX12.cf cf) rfl (.inl rfl) rfl)) (fun X12 hX12 one_ hm12 => (xe_callTy (hX12.cf cf) (cl_listS (lc := (.st true))) rfl hb.n_list bt_list (xa_cons (xe_var (hX12.cf cf) 1 rfl (.inl rfl) rfl) xa_nil))))))
abbrev sp_law_copied [CA] : Sp := spI true (fun (i : {p : (Int × (List (List Int))) // True}) => [dv false i.1]) (fun i => Py.enc (m_law_copied i.1))
theorem ok_law_copied [CA] {t : Tx} (D : DefAt t "_law_copied" s_law_copied) (hb : Bl t) : FnAt t "_law_copied" 1 ["_law_family_here"] sp_law_copied :=
  fn_def (k := 0) D sc_law_copied (fun _ _ _ _ _ _ us hl => match us, hl with | [_], _ => rfl) (fun _ => rfl) fun X b i cf at_ hR => b_law_copied cf at_ hb hR i.1
/-! ### _law_half -/
abbrev s_law_half : Stmt := top 25
abbrev N_law_half : List Str := ["_law_sets", "_law_point", "_law_there", "_law_one"]
abbrev R_law_half : List En := [.no, .no, .no, .no]
theorem sc_law_half : FnScope N_law_half ["_law_sets", "_law_point", "_law_there"] (defScope s_law_half) := ⟨rfl, rfl, rfl, by decide +kernel, rfl, by decide +kernel, by decide +kernel⟩
def m_law_half (sets : (List (List Int))) (point : Int) (there : Bool) : (List (List Int)) := (sets.filter fun (one_ : (List Int)) => (decide ((memB point one_) = there)))
theorem b_law_half [CA] {X : Cx} {b : Bs} {t : Tx} (cf : Cf X N_law_half (defScope s_law_half) t.mg (fun _ => true)) (at_ : At X t 0) (hb : Bl t) (hR : b.R = R_law_half) (sets : (List (List Int))) (point : Int) (there : Bool) : XB X b false (defBody s_law_half) [dv false sets, dv false point, dv false there, .no] (some (m_law_half sets point there)) [] :=
  (xb_ret hR (Wk.sub (.drop (.drop (.drop (.drop .nil))))) (xe_eq (xe_lc (own := [("_law_one", 3)]) (js := [3]) (f := fun (one_ : (List Int)) => (decide ((memB point one_) = there))) (g := fun (one_ : (List Int)) => one_) (k' := false) (Γt := fun one_ => [dv false sets, dv false point, dv false there, dv false one_]) cf (blkOk_by (by decide +kernel)) (by decide) (xi_list (xe_var cf 0 rfl (.inl rfl) rfl)) (fun X13 hX13 one_ hm13 => (xg_name (j := 3) (hX13.cf cf) rfl (.inl rfl) rfl)) (fun X13 hX13 one_ hm13 => xts_one (xt_cmp (cv_eq (α := Bool) (n := 0) (hX13.cf cf)) (xe_cmp (lc := .bor) (cv_in (α := Int) (n := 0) (hX13.cf cf)) (xe_var (hX13.cf cf) 1 rfl (.inr (.inl rfl)) rfl) (xe_var (hX13.cf cf) 3 rfl (.inl rfl) rfl) rfl) (xe_var (hX13.cf cf) 2 rfl (.inr (.inl rfl)) rfl) rfl)) (fun X13 hX13 one_ hm13 hf13 => (xe_var (hX13.cf cf) 3 rfl (.inl rfl) rfl))) (List.map_id' _)))
abbrev sp_law_half [CA] : Sp := spI false (fun (i : {p : ((List (List Int)) × Int × Bool) // True}) => [dv false i.1.1, dv false i.1.2.1, dv false i.1.2.2]) (fun i => Py.enc (m_law_half i.1.1 i.1.2.1 i.1.2.2))
theorem ok_law_half [CA] {t : Tx} (D : DefAt t "_law_half" s_law_half) (hb : Bl t) : FnAt t "_law_half" 1 ["_law_sets", "_law_point", "_law_there"] sp_law_half :=
  fn_def (k := 0) D sc_law_half (fun _ _ _ _ _ _ us hl => match us, hl with | [_, _, _], _ => rfl) (fun _ => rfl) fun X b i cf at_ hR => b_law_half cf at_ hb hR i.1.1 i.1.2.1 i.1.2.2
/-! ### _law_least -/
abbrev s_law_least : Stmt := top 26
abbrev N_law_least : List Str := ["_law_sets", "_law_points", "_law_found", "_law_point", "_law_one", "_law_other", "_law_low", "_law_high"]
abbrev ps_law_least : List Str := ["_law_sets", "_law_points"]
abbrev R_law_least : List En := [.no, .no, .no, .no, .no, .no, .no, .no]
theorem sc_law_least : FnScope N_law_least ["_law_sets", "_law_points"] (defScope s_law_least) := ⟨rfl, rfl, rfl, by decide +kernel, rfl, by decide +kernel, by decide +kernel⟩
def qR_law_least (n : Nat) (p : List (List Int) × Int) : Prop := p.1.length < n ∧ (0 ≤ p.2 ∧ p.2 ≤ 1000) ∧ p.1.Nodup ∧ ∀ f ∈ p.1, Ris p.2 f
abbrev sp_law_least [CA] (n : Nat) : Sp := spI false (fun (i : {p : ((List (List Int)) × Int) // qR_law_least n p}) => [dv false i.1.1, dv false i.1.2]) (fun i => Py.enc (mM i.1.2 i.1.1))
def m_law_least_1 (points : Int) (found : Int) (one : (List (List Int))) (other : (List (List Int))) : Int := (cond ((!decide (one = ([] : (List (List Int))))) && (!decide (other = ([] : (List (List Int)))))) (max (max found (getL (sortD ([(mM points one), (mM points other)] : (List Int))) 1)) ((getL (sortD ([(mM points one), (mM points other)] : (List Int))) 0) + (1 : Int))) found)
def q_law_least_1 (n : Nat) (points : Int) (one : (List (List Int))) (other : (List (List Int))) : Prop := ((!decide (one = ([] : (List (List Int))))) && (!decide (other = ([] : (List (List Int)))))) = true → (((qR_law_least n (one, points)) ∧ (qR_law_least n (other, points))) ∧ ((sortD ([(mM points one), (mM points other)] : (List Int))).length = 2))
theorem b_law_least_1 [CA] {X : Cx} {b : Bs} {t : Tx} {n : Nat} (cf : Cf X N_law_least (defScope s_law_least) t.mg (fun _ => true)) (at_ : At X t (n + 1)) (hb : Bl t) (hR : b.R = R_law_least) (G_law_half : FnAt t "_law_half" 1 ["_law_sets", "_law_point", "_law_there"] sp_law_half) (G_law_least : FnAt t "_law_least" (n + 1) ["_law_sets", "_law_points"] (sp_law_least n)) (sets : (List (List Int))) (points : Int) (found : Int) (one : (List (List Int))) (other : (List (List Int))) (s1 : Int) (point : Int) (h : q_law_least_1 n points one other) : XB X b false (List.drop 1 (stB (stN ((defBody s_law_least)) 2))) [dv false sets, dv false points, dv true found, .no, dv false one, dv false other, .no, .no] (none : Option Int) ((fun (s1 : Int) => [dv false sets, dv false points, dv true s1, .no, .no, .no, .no, .no]) (m_law_least_1 points found one other)) :=
  (xb_seq (xs_ifE (Γ' := fun (hcB : Bool) => [dv false sets, dv false points, dv true (cond hcB (max (max found (getL (sortD ([(mM points one), (mM points other)] : (List Int))) 1)) ((getL (sortD ([(mM points one), (mM points other)] : (List Int))) 0) + (1 : Int))) found), .no, .no, .no, .no, .no]) (xt_w (xw_and (xt_cmp (cv_ne (α := (List (List Int))) (n := 2) cf) (xe_var cf 4 rfl (.inl rfl) rfl) (xe_lst (lv := (.st true)) (xs := ([] : (List (List Int)))) xa_nil) rfl) (fun hc19 => (xw_and1 (xt_cmp (cv_ne (α := (List (List Int))) (n := 2) cf) (xe_var cf 5 rfl (.inl rfl) rfl) (xe_lst (lv := (.st true)) (xs := ([] : (List (List Int)))) xa_nil) rfl))))) (fun hc20 => (xb_endW (xb_seq (xs_asg (k := true) (xe_callB cf (cl_sortS (α := Int) (lc := (.st true)) cf) rfl hb.n_sorted bt_sorted (xa_cons (xe_lst (lv := (.st true)) (xs := ([(mM points one), (mM points other)] : (List Int))) (xa_cons (xe_sc (xe_fn cf at_ G_law_least (ble_rf _) rfl ⟨(one, points), (h hc20).1.1⟩ (xa_cons (xe_var cf 4 rfl (.inl rfl) rfl) (xa_cons (xe_var cf 1 rfl (.inl rfl) rfl) xa_nil)) (.cons (k := false) (.cons (k := false) .nil)))) (xa_cons (xe_sc (xe_fn cf at_ G_law_least (ble_rf _) rfl ⟨(other, points), (h hc20).1.2⟩ (xa_cons (xe_var cf 5 rfl (.inl rfl) rfl) (xa_cons (xe_var cf 1 rfl (.inl rfl) rfl) xa_nil)) (.cons (k := false) (.cons (k := false) .nil)))) xa_nil))) xa_nil)) (xg_lst2 (xs := (sortD ([(mM points one), (mM points other)] : (List Int)))) cf (h hc20).2 (xgs_cons (xg_name (j := 6) cf rfl (.inl rfl) rfl) (xgs_cons (xg_name (j := 7) cf rfl (.inl rfl) rfl) xgs_nil))))
  (xb_seq (xs_asg (k := true) (xe_callB cf (lc := (.st true)) (cl_max3 cf) rfl hb.n_max bt_max (xa_cons (xe_var cf 2 rfl (.inl rfl) rfl) (xa_cons (xe_var cf 7 rfl (.inl rfl) rfl) (xa_cons (xe_add (lc := .bor) (xe_var cf 6 rfl (.inl rfl) rfl) (xe_int (lv := .bor))) xa_nil)))) (xg_name (j := 2) cf rfl (.inl rfl) rfl))
  xb_nil)) (Wk.sub (.keep (.keep (.keep (.drop (.drop (.drop (.drop (.drop .nil))))))))))) (fun hc20 => (xb_endW xb_nil (Wk.sub (.keep (.keep (.keep (.drop (.drop (.drop (.drop (.drop .nil))))))))))))
  (xb_end xb_nil (.keep (.keep (.keep (.drop (.drop (.drop (.drop (.drop .nil))))))))))
def m_law_least_l1 (sets : (List (List Int))) (points : Int) (s1 : Int) (point : Int) : Int := (m_law_least_1 points s1 (m_law_half sets point false) (m_law_half sets point true))
def q_law_least_l1 (n : Nat) (sets : (List (List Int))) (points : Int) (s1 : Int) (point : Int) : Prop := q_law_least_1 n points (m_law_half sets point false) (m_law_half sets point true)
theorem b_law_least_l1 [CA] {X : Cx} {b : Bs} {t : Tx} {n : Nat} (cf : Cf X N_law_least (defScope s_law_least) t.mg (fun _ => true)) (at_ : At X t (n + 1)) (hb : Bl t) (hR : b.R = R_law_least) (G_law_half : FnAt t "_law_half" 1 ["_law_sets", "_law_point", "_law_there"] sp_law_half) (G_law_least : FnAt t "_law_least" (n + 1) ["_law_sets", "_law_points"] (sp_law_least n)) (sets : (List (List Int))) (points : Int) (s1 : Int) (point : Int) (h : q_law_least_l1 n sets points s1 point) : XB X b false (stB (stN ((defBody s_law_least)) 2)) [dv false sets, dv false points, dv true s1, dv true point, .no, .no, .no, .no] (none : Option Int) ((fun (s1 : Int) => [dv false sets, dv false points, dv true s1, .no, .no, .no, .no, .no]) (m_law_least_l1 sets points s1 point)) :=
  (xb_seq (xs_par (i := 4) (j := 5) cf rfl rfl (by decide) rfl rfl (k := false) (k' := false) (xe_fn cf at_ G_law_half rfl rfl ⟨(sets, point, false), trivial⟩ (xa_cons (xe_var cf 0 rfl (.inl rfl) rfl) (xa_cons (xe_sc (xe_var cf 3 rfl (.inl rfl) rfl)) (xa_cons (xe_bl (lv := (.st false))) xa_nil))) (.cons (k := false) (.cons (k := false) (.cons (k := false) .nil)))) (xe_fn cf at_ G_law_half rfl rfl ⟨(sets, point, true), trivial⟩ (xa_cons (xe_var cf 0 rfl (.inl rfl) rfl) (xa_cons (xe_sc (xe_var cf 3 rfl (.inl rfl) rfl)) (xa_cons (xe_bl (lv := (.st false))) xa_nil))) (.cons (k := false) (.cons (k := false) (.cons (k := false) .nil)))) (swap2 cf rfl rfl rfl rfl (by decide +kernel) ⟨rfl, rfl⟩ rfl rfl))
  (xb_sub (b_law_least_1 cf at_ hb hR G_law_half G_law_least sets points s1 (m_law_half sets point false) (m_law_half sets point true) s1 point h) (.keep (.keep (.keep (.drop (.keep (.keep (.drop (.drop .nil))))))))))
def m_law_least (sets : (List (List Int))) (points : Int) : Int := (cond (decide (((sets).length : Int) < (2 : Int))) (((sets).length : Int) - (1 : Int)) ((rg 0 (points).toNat).foldl (m_law_least_l1 sets points) (0 : Int)))
def q_law_least (n : Nat) (sets : (List (List Int))) (points : Int) : Prop := (decide (((sets).length : Int) < (2 : Int))) = false → ((-1000000 ≤ points ∧ points ≤ 1000000) ∧ (∀ (i : Nat) (s1 : Int) (point : Int), (rg 0 (points).toNat)[i]? = some point → ((rg 0 (points).toNat).take i).foldl (m_law_least_l1 sets points) (0 : Int) = s1 → q_law_least_l1 n sets points s1 point))
theorem b_law_least [CA] {X : Cx} {b : Bs} {t : Tx} {n : Nat} (cf : Cf X N_law_least (defScope s_law_least) t.mg (fun _ => true)) (at_ : At X t (n + 1)) (hb : Bl t) (hR : b.R = R_law_least) (G_law_half : FnAt t "_law_half" 1 ["_law_sets", "_law_point", "_law_there"] sp_law_half) (G_law_least : FnAt t "_law_least" (n + 1) ["_law_sets", "_law_points"] (sp_law_least n)) (sets : (List (List Int))) (points : Int) (h : q_law_least n sets points) : XB X b false (defBody s_law_least) [dv false sets, dv false points, .no, .no, .no, .no, .no, .no] (some (m_law_least sets points)) [] :=
  (xb_ifr (Γ1 := []) (xt_cmp cv_lt (xe_callB cf (lc := .bor) cl_len rfl hb.n_len bt_len (xa_cons (xe_var cf 0 rfl (.inl rfl) rfl) xa_nil)) (xe_int (lv := .bor)) rfl) (fun hc21 => (xb_ret hR (Wk.sub (.drop (.drop (.drop (.drop (.drop (.drop (.drop (.drop .nil))))))))) (xe_subI (lc := (.st false)) (xe_callB cf (lc := .bor) cl_len rfl hb.n_len bt_len (xa_cons (xe_var cf 0 rfl (.inl rfl) rfl) xa_nil)) (xe_int (lv := .bor)))))
  (fun hc21 => (xb_seq (xs_asg (k := true) (xe_int (lv := (.st true))) (xg_name (j := 2) cf rfl (.inl rfl) rfl))
  (xb_seq (xs_forN (Γs := (fun (s1 : Int) => [dv false sets, dv false points, dv true s1, .no, .no, .no, .no, .no])) (Γt := (fun (s1 : Int) (point : Int) => [dv false sets, dv false points, dv true s1, dv true point, .no, .no, .no, .no])) (step := (m_law_least_l1 sets points)) (js := [3]) (fun i s1 => ((rg 0 (points).toNat).take i).foldl (m_law_least_l1 sets points) (0 : Int) = s1) (0 : Int) cf (xi_range1 cf (xe_var cf 1 rfl (.inl rfl) rfl) (h hc21).1 rfl hb.n_range) (.keep (.keep (.keep (.drop (.drop (.drop (.drop (.drop .nil)))))))) rfl (fun s1 point _ => (xg_name (j := 3) cf rfl (.inl rfl) rfl)) (fun i s1 point hx hi => (b_law_least_l1 cf at_ hb hR G_law_half G_law_least sets points s1 point ((h hc21).2 i s1 point hx hi))) (foldl_Iv _ _ _))
  (xb_ret hR (Wk.sub (.drop (.drop (.drop (.drop (.drop (.drop (.drop (.drop .nil))))))))) (xe_sc (xe_var cf 2 rfl (.inl rfl) rfl)))))))
/-! ### _law_none -/
abbrev s_law_none : Stmt := top 27
abbrev N_law_none : List Str := ["_law_teller", "_law_point", "_law_there", "error", "_law_others"]
theorem sc_law_none : FnScope N_law_none ["_law_teller", "_law_point", "_law_there"] (defScope s_law_none) := ⟨rfl, rfl, rfl, by decide +kernel, rfl, by decide +kernel, by decide +kernel⟩
def m_law_none (s : Fo) (p : Int) (b : Bool) : Bool := true
def q_law_none (po0 : Fo) (s : Fo) (p : Int) (b : Bool) : Prop := qx_Foreteller_tell s p b
abbrev sp_law_none [CA] (t : Tx) : Sp := spO t.P t.w CA.f false (fun (i : {p : (Fo × Int × Bool) // q_law_none p.1 p.1 p.2.1 p.2.2}) => [dv false i.1.2.1, dv false i.1.2.2]) (fun i => foS i.1.1) (fun i => foS i.1.1) (fun i => Py.enc (m_law_none i.1.1 i.1.2.1 i.1.2.2))
theorem ok_law_none [CA] {t : Tx} (D : DefAt t "_law_none" s_law_none) (hb : Bl t) (GX : MethAtX t CA.f "tell" 21 ["self", "point", "there"] (spX_Foreteller_tell t)) (G_Fo : FoAt t CA.f) (G_Ns : ∃ D, NsAt t D) (K1 : ∀ D, NsAt t D → KitAt t D "BadAnswer" false) (K2 : ∀ D, NsAt t D → KitAt t D "BadFamily" false) (K3 : ∀ D, NsAt t D → KitAt t D "BadPoint" false) : FnAt t "_law_none" 22 ["_law_teller", "_law_point", "_law_there"] (sp_law_none t) :=
  fn_defT (k := 21) D sc_law_none (fun _ _ _ _ _ _ us hl => match us, hl with | [_, _, _], _ => rfl) (fun _ => rfl) (fun _ => ⟨rfl, rfl⟩) fun X b i v0 dx0 d0 cf at_ tr hR =>
  PSs.wk (pss_cons (xs_try (β := Bool) (r := true) (rl := false) (Γ := [.res (objR t.P t.w CA.f (foQ i.1.1 (some (v0, dx0)) (some d0))), dv false i.1.2.1, dv false i.1.2.2, .no, .no]) (ie := 3) (Γ' := []) cf at_ tr rfl rfl rfl G_Ns
    (fun Wx pn xe cf2 at2 tk => xx_meth (j := 0) (os := (foQ i.1.1 (some (v0, dx0)) (some d0))) cf2 at2 G_Fo.cl GX rfl rfl (.inl rfl) ⟨(i.1.1, i.1.2.1, i.1.2.2), i.2⟩ rfl (fun _ _ _ => rfl) rfl rfl (show ("tell" : Str) ∉ (["points", "sets", "wrong"] : List Str) by decide +kernel) (by decide +kernel) tk (xa_cons (xe_var cf2 1 rfl (.inl rfl) rfl) (xa_cons (xe_var cf2 2 rfl (.inl rfl) rfl) xa_nil)) (.cons (k := false) (.cons (k := false) .nil)))
    rfl rfl (fun a1 oe D0 pn hD hz hf => su_any (Γ := [.res (objR t.P t.w CA.f (foQ i.1.1 (some (v0, dx0)) (some d0))), dv false i.1.2.1, dv false i.1.2.2, .no, .no]) (ie := 3) (io := 4) cf at_ rfl rfl rfl rfl (by decide) rfl rfl rfl rfl rfl rfl hb.n_isinstance rfl hb.n_any hD (K1 D0 hD) (K2 D0 hD) (K3 D0 hD) hz hf hR (Wk.sub (.keep (.drop (.drop (.keep (.keep .nil)))))) (Nat.le_of_ble_eq_true rfl))) pss_never) fun D σ H ⟨F, ok, kk⟩ => ⟨F, ok, tS_some (Γ' := []) kk rfl (Ex.rf F)⟩
/-! ### _law_told -/
abbrev s_law_told : Stmt := top 28
abbrev N_law_told : List Str := ["_law_teller", "_law_sets", "_law_wrong", "_law_found", "_law_many", "_law_some"]
abbrev R_law_told [CA] (t : Tx) (v0 : V) (dx0 : Addr) (d0 : V) (po0 : Fo) : List En := [.res (objR t.P t.w CA.f (foQ po0 (some (v0, dx0)) (some d0))), .no, .no, .no, .no, .no]
theorem sc_law_told : FnScope N_law_told ["_law_teller", "_law_sets", "_law_wrong"] (defScope s_law_told) := ⟨rfl, rfl, rfl, by decide +kernel, rfl, by decide +kernel, by decide +kernel⟩
def m_law_told_1 (teller : Fo) (sets : (List (List Int))) (wrong : Int) (found : (List (List Int))) (many : Int) : Bool := (cond ((!true) || ((!decide (found = sets)) || (false || (!decide (many = wrong))))) false (decide ((m_Foreteller_sets_left teller) = sets)))
def q_law_told_1 (po0 : Fo) (teller : Fo) (sets : (List (List Int))) (wrong : Int) (found : (List (List Int))) (many : Int) : Prop := (((!true) || ((!decide (found = sets)) || (false || (!decide (many = wrong))))) = true → (teller = po0)) ∧ (((!true) || ((!decide (found = sets)) || (false || (!decide (many = wrong))))) = false → (((found).length ≤ 1000 ∧ ∀ y ∈ found, (y).length ≤ 1000) ∧ (teller = po0)))
theorem b_law_told_1 [CA] {X : Cx} {b : Bs} {t : Tx} {v0 : V} {dx0 : Addr} {d0 : V} {po0 : Fo} (cf : Cf X N_law_told (defScope s_law_told) t.mg (fun _ => true)) (at_ : At X t 1) (hb : Bl t) (hR : b.R = R_law_told t v0 dx0 d0 po0) (G_FoP_sets_left : MethAt t CA.f "sets_left" 1 ["self"] (spP_Foreteller_sets_left t)) (G_FoP_mistakes_made : MethAt t CA.f "mistakes_made" 1 ["self"] (spP_Foreteller_mistakes_made t)) (G_Fo : FoAt t CA.f) (teller : Fo) (sets : (List (List Int))) (wrong : Int) (found : (List (List Int))) (many : Int) (h : q_law_told_1 po0 teller sets wrong found many) : XB X b false (List.drop 1 ((defBody s_law_told))) [.res (objR t.P t.w CA.f (foQ teller (some (v0, dx0)) (some d0))), dv false sets, dv false wrong, wv found, dv true many, .no] (some (m_law_told_1 teller sets wrong found many)) [] :=
  (xb_ifr (Γ1 := []) (xt_lend (j := 3) rfl (xt_w (xw_or (xt_not (xt_val (xe_isi (lc := .bor) cf (α := (List (List Int))) (p := found) (xe_var cf 3 rfl (.inl rfl) rfl) (n := "list") (c := true) (show kitB "list" "list" = some true by decide +kernel) rfl hb.n_list bt_list rfl hb.n_isinstance bt_isinstance) (by intro _; rfl))) (fun hc22 => (xw_or (xt_cmp (cv_ne (α := (List (List Int))) (n := 2) cf) (xe_var cf 3 rfl (.inl rfl) rfl) (xe_var cf 1 rfl (.inl rfl) rfl) rfl) (fun hc23 => (xw_or (xt_val (xe_isi (lc := .bor) cf (α := Int) (p := many) (xe_var cf 4 rfl (.inl rfl) rfl) (n := "bool") (c := false) (show kitB "int" "bool" = some false by decide +kernel) rfl hb.n_bool bt_bool rfl hb.n_isinstance bt_isinstance) (by intro _; rfl)) (fun hc24 => (xw_or1 (xt_cmp (cv_ne (α := Int) (n := 0) cf) (xe_var cf 4 rfl (.inl rfl) rfl) (xe_var cf 2 rfl (.inl rfl) rfl) rfl)))))))))) (fun hc25 => (xb_ret hR (Wk.sub (Sub.foE (h.1 hc25) (.drop (.drop (.drop (.drop (.drop .nil))))))) (xe_bl (lv := (.st false)))))
  (fun hc25 => (xb_seq (xs_mutX (j := 3) (jy := 5) cf rfl (.inl rfl) rfl (by decide) rfl rfl rfl (fun _ => xe_int) (h.2 hc25).1)
  (xb_seq (xs_appB (j := 3) cf rfl (.inl rfl) rfl (xe_lst (lv := .bor) (xs := ([] : (List Int))) xa_nil))
  (xb_ret hR (Wk.sub (Sub.foE (h.2 hc25).2 (.drop (.drop (.drop (.drop (.drop .nil))))))) (xe_cmp (lc := (.st false)) (cv_eq (α := (List (List Int))) (n := 2) cf) (xe_xd (xd_methP (j := 0) (os := (foQ teller (some (v0, dx0)) (some d0))) cf at_ G_Fo.cl G_FoP_sets_left rfl rfl (.inl rfl) (teller, some (v0, dx0), some d0) rfl rfl (show ("sets_left" : Str) ∉ (["points", "sets", "wrong"] : List Str) by decide +kernel) (by decide +kernel))) (xe_var cf 1 rfl (.inl rfl) rfl) rfl))))))
def m_law_told (teller : Fo) (sets : (List (List Int))) (wrong : Int) : Bool := (m_law_told_1 teller sets wrong (m_Foreteller_sets_left teller) (m_Foreteller_mistakes_made teller))
def q_law_told (po0 : Fo) (teller : Fo) (sets : (List (List Int))) (wrong : Int) : Prop := q_law_told_1 po0 teller sets wrong (m_Foreteller_sets_left teller) (m_Foreteller_mistakes_made teller)
theorem b_law_told [CA] {X : Cx} {b : Bs} {t : Tx} {v0 : V} {dx0 : Addr} {d0 : V} {po0 : Fo} (cf : Cf X N_law_told (defScope s_law_told) t.mg (fun _ => true)) (at_ : At X t 1) (hb : Bl t) (hR : b.R = R_law_told t v0 dx0 d0 po0) (G_FoP_sets_left : MethAt t CA.f "sets_left" 1 ["self"] (spP_Foreteller_sets_left t)) (G_FoP_mistakes_made : MethAt t CA.f "mistakes_made" 1 ["self"] (spP_Foreteller_mistakes_made t)) (G_Fo : FoAt t CA.f) (teller : Fo) (sets : (List (List Int))) (wrong : Int) (h : q_law_told po0 teller sets wrong) : XB X b false (defBody s_law_told) [.res (objR t.P t.w CA.f (foQ teller (some (v0, dx0)) (some d0))), dv false sets, dv false wrong, .no, .no, .no] (some (m_law_told teller sets wrong)) [] :=
  (xb_seq (xs_parDE (i := 3) (j := 4) cf rfl rfl (by decide) rfl rfl (k := true) (xd_methP (j := 0) (os := (foQ teller (some (v0, dx0)) (some d0))) cf at_ G_Fo.cl G_FoP_sets_left rfl rfl (.inl rfl) (teller, some (v0, dx0), some d0) rfl rfl (show ("sets_left" : Str) ∉ (["points", "sets", "wrong"] : List Str) by decide +kernel) (by decide +kernel)) (xe_xd (xd_methP (j := 0) (os := (foQ teller (some (v0, dx0)) (some d0))) cf at_ G_Fo.cl G_FoP_mistakes_made rfl rfl (.inl rfl) (teller, some (v0, dx0), some d0) rfl rfl (show ("mistakes_made" : Str) ∉ (["points", "sets", "wrong"] : List Str) by decide +kernel) (by decide +kernel))) (swap2 cf rfl rfl rfl rfl (by decide +kernel) ⟨rfl, rfl⟩ rfl rfl))
  (xb_sub (b_law_told_1 cf at_ hb hR G_FoP_sets_left G_FoP_mistakes_made G_Fo teller sets wrong (m_Foreteller_sets_left teller) (m_Foreteller_mistakes_made teller) h) (.keep (.keep (.keep (.keep (.keep (.drop .nil))))))))
abbrev sp_law_told [CA] (t : Tx) : Sp := spO t.P t.w CA.f false (fun (i : {p : (Fo × (List (List Int)) × Int) // q_law_told p.1 p.1 p.2.1 p.2.2}) => [dv false i.1.2.1, dv false i.1.2.2]) (fun i => foS i.1.1) (fun i => foS i.1.1) (fun i => Py.enc (m_law_told i.1.1 i.1.2.1 i.1.2.2))
theorem ok_law_told [CA] {t : Tx} (D : DefAt t "_law_told" s_law_told) (hb : Bl t) (G_FoP_sets_left : MethAt t CA.f "sets_left" 1 ["self"] (spP_Foreteller_sets_left t)) (G_FoP_mistakes_made : MethAt t CA.f "mistakes_made" 1 ["self"] (spP_Foreteller_mistakes_made t)) (G_Fo : FoAt t CA.f) : FnAt t "_law_told" 2 ["_law_teller", "_law_sets", "_law_wrong"] (sp_law_told t) :=
  fn_defO (k := 1) D sc_law_told (fun _ _ _ _ _ _ us hl => match us, hl with | [_, _, _], _ => rfl) (fun _ => rfl) (fun _ => ⟨rfl, rfl⟩) fun X b i v0 dx0 d0 cf at_ hR => b_law_told (po0 := i.1.1) cf at_ hb hR G_FoP_sets_left G_FoP_mistakes_made G_Fo i.1.1 i.1.2.1 i.1.2.2 i.2
/-! ### _law_asked -/
abbrev s_law_asked : Stmt := top 29
abbrev N_law_asked : List Str := ["_law_teller", "_law_sets", "_law_point", "_law_there", "_law_guess", "_law_left", "_law_said"]
abbrev R_law_asked [CA] (t : Tx) (v0 : V) (dx0 : Addr) (d0 : V) (po0 : Fo) : List En := [.res (objR t.P t.w CA.f (foQ po0 (some (v0, dx0)) (some d0))), .no, .no, .no, .no, .no, .no]
theorem sc_law_asked : FnScope N_law_asked ["_law_teller", "_law_sets", "_law_point", "_law_there"] (defScope s_law_asked) := ⟨rfl, rfl, rfl, by decide +kernel, rfl, by decide +kernel, by decide +kernel⟩
def m_law_asked_3 (left0 : (List (List Int))) (said : Bool) : ((List (List Int)) × Int) := (left0, (if (!said) then (1 : Int) else 0))
def q_law_asked_3 (po0 : Fo) (teller : Fo) (there : Bool) (guess : Bool) (said : Bool) : Prop := (((!true) || (!decide (said = (decide (guess = there))))) = false) ∧ (teller = po0)
theorem b_law_asked_3 [CA] {X : Cx} {b : Bs} {t : Tx} {v0 : V} {dx0 : Addr} {d0 : V} {po0 : Fo} (cf : Cf X N_law_asked (defScope s_law_asked) t.mg (fun _ => true)) (at_ : At X t 22) (hb : Bl t) (hR : b.R = R_law_asked t v0 dx0 d0 po0) (G_Foreteller_guess : MethAt t CA.f "guess" 20 ["self", "point"] (sp_Foreteller_guess t)) (G_law_half : FnAt t "_law_half" 1 ["_law_sets", "_law_point", "_law_there"] sp_law_half) (G_Foreteller_tell : MethAt t CA.f "tell" 21 ["self", "point", "there"] (sp_Foreteller_tell t)) (G_law_none : FnAt t "_law_none" 22 ["_law_teller", "_law_point", "_law_there"] (sp_law_none t)) (G_Fo : FoAt t CA.f) (teller : Fo) (there : Bool) (guess : Bool) (left0 : (List (List Int))) (said : Bool) (h : q_law_asked_3 po0 teller there guess said) : XB X b false (List.drop 5 ((defBody s_law_asked))) [.res (objR t.P t.w CA.f (foQ teller (some (v0, dx0)) (some d0))), .no, .no, dv false there, dv true guess, dv false left0, dv true said] (some (m_law_asked_3 left0 said)) [] :=
  (xb_if0 (xt_w (xw_or (xt_not (xt_val (xe_isi (lc := .bor) cf (α := Bool) (p := said) (xe_var cf 6 rfl (.inl rfl) rfl) (n := "bool") (c := true) (show kitB "bool" "bool" = some true by decide +kernel) rfl hb.n_bool bt_bool rfl hb.n_isinstance bt_isinstance) (by intro _; rfl))) (fun hc26 => (xw_or1 (xt_cmp (cv_ne (α := Bool) (n := 0) cf) (xe_var cf 6 rfl (.inl rfl) rfl) (xe_cmp (lc := .bor) (cv_eq (α := Bool) (n := 0) cf) (xe_var cf 4 rfl (.inl rfl) rfl) (xe_var cf 3 rfl (.inl rfl) rfl) rfl) rfl))))) h.1
  (xb_ret hR (Wk.sub (Sub.foE h.2 (.drop (.drop (.drop (.drop (.drop (.drop .nil)))))))) (xe_t2 (lv := (.st false)) (xe_var cf 5 rfl (.inl rfl) rfl) (xe_callTy cf (lc := (.st false)) cl_intB rfl hb.n_int bt_int (xa_cons (xe_notB (lc := .bor) (xe_var cf 6 rfl (.inl rfl) rfl)) xa_nil)))))
def m_law_asked_2 (teller : Fo) (sets : (List (List Int))) (point : Int) (there : Bool) (left0 : (List (List Int))) : ((List (List Int)) × Int) := (cond (decide (left0 = ([] : (List (List Int))))) (sets, (0 : Int)) (m_law_asked_3 left0 (m_Foreteller_tell teller point there)))
def q_law_asked_2 (po0 : Fo) (teller : Fo) (point : Int) (there : Bool) (guess : Bool) (left0 : (List (List Int))) : Prop := ((decide (left0 = ([] : (List (List Int))))) = true → (((q_law_none teller teller point there) ∧ ((m_law_none teller point there) = true)) ∧ (teller = po0))) ∧ ((decide (left0 = ([] : (List (List Int))))) = false → ((q_Foreteller_tell (po_Foreteller_tell teller point there) teller point there) ∧ (q_law_asked_3 po0 (po_Foreteller_tell teller point there) there guess (m_Foreteller_tell teller point there))))
theorem b_law_asked_2 [CA] {X : Cx} {b : Bs} {t : Tx} {v0 : V} {dx0 : Addr} {d0 : V} {po0 : Fo} (cf : Cf X N_law_asked (defScope s_law_asked) t.mg (fun _ => true)) (at_ : At X t 22) (hb : Bl t) (hR : b.R = R_law_asked t v0 dx0 d0 po0) (G_Foreteller_guess : MethAt t CA.f "guess" 20 ["self", "point"] (sp_Foreteller_guess t)) (G_law_half : FnAt t "_law_half" 1 ["_law_sets", "_law_point", "_law_there"] sp_law_half) (G_Foreteller_tell : MethAt t CA.f "tell" 21 ["self", "point", "there"] (sp_Foreteller_tell t)) (G_law_none : FnAt t "_law_none" 22 ["_law_teller", "_law_point", "_law_there"] (sp_law_none t)) (G_Fo : FoAt t CA.f) (teller : Fo) (sets : (List (List Int))) (point : Int) (there : Bool) (guess : Bool) (left0 : (List (List Int))) (h : q_law_asked_2 po0 teller point there guess left0) : XB X b false (List.drop 3 ((defBody s_law_asked))) [.res (objR t.P t.w CA.f (foQ teller (some (v0, dx0)) (some d0))), dv false sets, dv false point, dv false there, dv true guess, dv false left0, .no] (some (m_law_asked_2 teller sets point there left0)) [] :=
  (xb_ifr (Γ1 := []) (xt_cmp (cv_eq (α := (List (List Int))) (n := 2) cf) (xe_var cf 5 rfl (.inl rfl) rfl) (xe_lst (lv := (.st true)) (xs := ([] : (List (List Int)))) xa_nil) rfl) (fun hc27 => (xb_retC hR (Wk.sub (Sub.foE (h.1 hc27).2 (.drop (.drop (.drop (.drop (.drop (.drop .nil)))))))) (xc_if1 (xtc_val (k := false) (xc_sc (xc_fn (j := 0) (os := (foQ teller (some (v0, dx0)) (some d0))) cf at_ G_law_none rfl rfl rfl (.inl rfl) ⟨(teller, point, there), (h.1 hc27).1.1⟩ rfl (fun _ _ _ => rfl) ⟨rfl, rfl⟩ (xa_cons (xe_var cf 2 rfl (.inl rfl) rfl) (xa_cons (xe_var cf 3 rfl (.inl rfl) rfl) xa_nil)) (.cons (k := false) (.cons (k := false) .nil)))) (by intro _; rfl)) (h.1 hc27).1.2 (xc_xe (xe_t2 (lv := (.st false)) (xe_var cf 1 rfl (.inl rfl) rfl) (xe_int (lv := (.st false))))))))
  (fun hc27 => (xb_seq (xs_asgC (k := true) (xc_sc (xc_meth (j := 0) (os := (foQ teller (some (v0, dx0)) (some d0))) cf at_ G_Fo.cl G_Foreteller_tell rfl rfl (.inl rfl) ⟨(teller, point, there), (h.2 hc27).1⟩ rfl (fun _ _ _ => rfl) ⟨rfl, rfl⟩ (show ("tell" : Str) ∉ (["points", "sets", "wrong"] : List Str) by decide +kernel) (by decide +kernel) (xa_cons (xe_var cf 2 rfl (.inl rfl) rfl) (xa_cons (xe_var cf 3 rfl (.inl rfl) rfl) xa_nil)) (.cons (k := false) (.cons (k := false) .nil)))) (xg_name (j := 6) cf rfl (.inl rfl) rfl))
  (xb_sub (b_law_asked_3 cf at_ hb hR G_Foreteller_guess G_law_half G_Foreteller_tell G_law_none G_Fo (po_Foreteller_tell teller point there) there guess left0 (m_Foreteller_tell teller point there) ((h.2 hc27).2)) (.keep (.drop (.drop (.keep (.keep (.keep (.keep .nil)))))))))))
def m_law_asked_1 (teller : Fo) (sets : (List (List Int))) (point : Int) (there : Bool) : ((List (List Int)) × Int) := (m_law_asked_2 teller sets point there (m_law_half sets point there))
def q_law_asked_1 (po0 : Fo) (teller : Fo) (sets : (List (List Int))) (point : Int) (there : Bool) (guess : Bool) : Prop := ((!true) = false → (q_Foreteller_guess teller teller point)) ∧ ((((!true) || (!decide ((m_Foreteller_guess teller point) = guess))) = false) ∧ (q_law_asked_2 po0 teller point there guess (m_law_half sets point there)))
theorem b_law_asked_1 [CA] {X : Cx} {b : Bs} {t : Tx} {v0 : V} {dx0 : Addr} {d0 : V} {po0 : Fo} (cf : Cf X N_law_asked (defScope s_law_asked) t.mg (fun _ => true)) (at_ : At X t 22) (hb : Bl t) (hR : b.R = R_law_asked t v0 dx0 d0 po0) (G_Foreteller_guess : MethAt t CA.f "guess" 20 ["self", "point"] (sp_Foreteller_guess t)) (G_law_half : FnAt t "_law_half" 1 ["_law_sets", "_law_point", "_law_there"] sp_law_half) (G_Foreteller_tell : MethAt t CA.f "tell" 21 ["self", "point", "there"] (sp_Foreteller_tell t)) (G_law_none : FnAt t "_law_none" 22 ["_law_teller", "_law_point", "_law_there"] (sp_law_none t)) (G_Fo : FoAt t CA.f) (teller : Fo) (sets : (List (List Int))) (point : Int) (there : Bool) (guess : Bool) (h : q_law_asked_1 po0 teller sets point there guess) : XB X b false (List.drop 1 ((defBody s_law_asked))) [.res (objR t.P t.w CA.f (foQ teller (some (v0, dx0)) (some d0))), dv false sets, dv false point, dv false there, dv true guess, .no, .no] (some (m_law_asked_1 teller sets point there)) [] :=
  (xb_if0C (xtc_w (xwc_or (xtc_xt (xt_not (xt_val (xe_isi (lc := .bor) cf (α := Bool) (p := guess) (xe_var cf 4 rfl (.inl rfl) rfl) (n := "bool") (c := true) (show kitB "bool" "bool" = some true by decide +kernel) rfl hb.n_bool bt_bool rfl hb.n_isinstance bt_isinstance) (by intro _; rfl)))) (fun hc28 => (xwc_or1 (xtc_cmp (k := false) (k' := false) (cv_ne (α := Bool) (n := 0) cf) (xc_sc (xc_meth (j := 0) (os := (foQ teller (some (v0, dx0)) (some d0))) cf at_ G_Fo.cl G_Foreteller_guess rfl rfl (.inl rfl) ⟨(teller, point), (h.1 hc28)⟩ rfl (fun _ _ _ => rfl) ⟨rfl, rfl⟩ (show ("guess" : Str) ∉ (["points", "sets", "wrong"] : List Str) by decide +kernel) (by decide +kernel) (xa_cons (xe_var cf 2 rfl (.inl rfl) rfl) xa_nil) (.cons (k := false) .nil))) (xc_xe (xe_sc (xe_var cf 4 rfl (.inl rfl) rfl))) rfl))) (fun _ => rfl))) h.2.1
  (xb_seq (xs_asg (k := false) (xe_fn cf at_ G_law_half rfl rfl ⟨(sets, point, there), trivial⟩ (xa_cons (xe_var cf 1 rfl (.inl rfl) rfl) (xa_cons (xe_var cf 2 rfl (.inl rfl) rfl) (xa_cons (xe_var cf 3 rfl (.inl rfl) rfl) xa_nil))) (.cons (k := false) (.cons (k := false) (.cons (k := false) .nil)))) (xg_name (j := 5) cf rfl (.inl rfl) rfl))
  (xb_sub (b_law_asked_2 cf at_ hb hR G_Foreteller_guess G_law_half G_Foreteller_tell G_law_none G_Fo teller sets point there guess (m_law_half sets point there) h.2.2) (.keep (.keep (.keep (.keep (.keep (.keep (.drop .nil))))))))))
def m_law_asked (teller : Fo) (sets : (List (List Int))) (point : Int) (there : Bool) : ((List (List Int)) × Int) := (m_law_asked_1 teller sets point there)
def q_law_asked (po0 : Fo) (teller : Fo) (sets : (List (List Int))) (point : Int) (there : Bool) : Prop := (q_Foreteller_guess teller teller point) ∧ (q_law_asked_1 po0 teller sets point there (m_Foreteller_guess teller point))
theorem b_law_asked [CA] {X : Cx} {b : Bs} {t : Tx} {v0 : V} {dx0 : Addr} {d0 : V} {po0 : Fo} (cf : Cf X N_law_asked (defScope s_law_asked) t.mg (fun _ => true)) (at_ : At X t 22) (hb : Bl t) (hR : b.R = R_law_asked t v0 dx0 d0 po0) (G_Foreteller_guess : MethAt t CA.f "guess" 20 ["self", "point"] (sp_Foreteller_guess t)) (G_law_half : FnAt t "_law_half" 1 ["_law_sets", "_law_point", "_law_there"] sp_law_half) (G_Foreteller_tell : MethAt t CA.f "tell" 21 ["self", "point", "there"] (sp_Foreteller_tell t)) (G_law_none : FnAt t "_law_none" 22 ["_law_teller", "_law_point", "_law_there"] (sp_law_none t)) (G_Fo : FoAt t CA.f) (teller : Fo) (sets : (List (List Int))) (point : Int) (there : Bool) (h : q_law_asked po0 teller sets point there) : XB X b false (defBody s_law_asked) [.res (objR t.P t.w CA.f (foQ teller (some (v0, dx0)) (some d0))), dv false sets, dv false point, dv false there, .no, .no, .no] (some (m_law_asked teller sets point there)) [] :=
  (xb_seq (xs_asgM (k := true) (xm_xc (xc_sc (xc_meth (j := 0) (os := (foQ teller (some (v0, dx0)) (some d0))) cf at_ G_Fo.cl G_Foreteller_guess rfl rfl (.inl rfl) ⟨(teller, point), h.1⟩ rfl (fun _ _ _ => rfl) ⟨rfl, rfl⟩ (show ("guess" : Str) ∉ (["points", "sets", "wrong"] : List Str) by decide +kernel) (by decide +kernel) (xa_cons (xe_var cf 2 rfl (.inl rfl) rfl) xa_nil) (.cons (k := false) .nil)))) (xg_name (j := 4) cf rfl (.inl rfl) rfl))
  (xb_sub (b_law_asked_1 cf at_ hb hR G_Foreteller_guess G_law_half G_Foreteller_tell G_law_none G_Fo teller sets point there (m_Foreteller_guess teller point) h.2) (.keep (.keep (.keep (.keep (.keep (.drop (.drop .nil)))))))))
def po_law_asked (s : Fo) (sets : List (List Int)) (p : Int) (b : Bool) : Fo := cond (decide (m_law_half sets p b = ([] : List (List Int)))) s (po_Foreteller_tell s p b)
abbrev sp_law_asked [CA] (t : Tx) : Sp := spO t.P t.w CA.f false (fun (i : {p : (Fo × (List (List Int)) × Int × Bool) // q_law_asked (po_law_asked p.1 p.2.1 p.2.2.1 p.2.2.2) p.1 p.2.1 p.2.2.1 p.2.2.2}) => [dv false i.1.2.1, dv false i.1.2.2.1, dv false i.1.2.2.2]) (fun i => foS i.1.1) (fun i => foS (po_law_asked i.1.1 i.1.2.1 i.1.2.2.1 i.1.2.2.2)) (fun i => Py.enc (m_law_asked i.1.1 i.1.2.1 i.1.2.2.1 i.1.2.2.2))
theorem ok_law_asked [CA] {t : Tx} (D : DefAt t "_law_asked" s_law_asked) (hb : Bl t) (G_Foreteller_guess : MethAt t CA.f "guess" 20 ["self", "point"] (sp_Foreteller_guess t)) (G_law_half : FnAt t "_law_half" 1 ["_law_sets", "_law_point", "_law_there"] sp_law_half) (G_Foreteller_tell : MethAt t CA.f "tell" 21 ["self", "point", "there"] (sp_Foreteller_tell t)) (G_law_none : FnAt t "_law_none" 22 ["_law_teller", "_law_point", "_law_there"] (sp_law_none t)) (G_Fo : FoAt t CA.f) : FnAt t "_law_asked" 23 ["_law_teller", "_law_sets", "_law_point", "_law_there"] (sp_law_asked t) :=
  fn_defO (k := 22) D sc_law_asked (fun _ _ _ _ _ _ us hl => match us, hl with | [_, _, _, _], _ => rfl) (fun _ => rfl) (fun _ => ⟨rfl, rfl⟩) fun X b i v0 dx0 d0 cf at_ hR => b_law_asked (po0 := (po_law_asked i.1.1 i.1.2.1 i.1.2.2.1 i.1.2.2.2)) cf at_ hb hR G_Foreteller_guess G_law_half G_Foreteller_tell G_law_none G_Fo i.1.1 i.1.2.1 i.1.2.2.1 i.1.2.2.2 i.2
/-! ### _law_right -/
abbrev s_law_right : Stmt := top 30
abbrev N_law_right : List Str := ["_law_family_here", "_law_script", "_law_against", "_law_handed", "_law_teller", "_law_sets", "_law_wrong", "_law_least_here", "_law_at", "_law_cell", "_law_number_here", "_law_point", "_law_there", "_law_told_here"]
abbrev R_law_right : List En := [.no, .no, .no, .no, .no, .no, .no, .no, .no, .no, .no, .no, .no, .no]
theorem sc_law_right : FnScope N_law_right ["_law_family_here", "_law_script", "_law_against"] (defScope s_law_right) := ⟨rfl, rfl, rfl, by decide +kernel, rfl, by decide +kernel, by decide +kernel⟩
def m_law_right_4o (teller : Fo) (wrong : Int) (least_here : Int) (told_here : ((List (List Int)) × Int)) : (Option Bool) := (cond (false) (some false) (cond ((decide ((wrong + told_here.2) > least_here)) || (!(m_law_told teller told_here.1 (wrong + told_here.2)))) (some false) none))
def m_law_right_4 (teller : Fo) (wrong : Int) (told_here : ((List (List Int)) × Int)) : (Fo × (List (List Int)) × Int) := (teller, told_here.1, (wrong + told_here.2))
def q_law_right_4 (teller : Fo) (wrong : Int) (least_here : Int) (told_here : ((List (List Int)) × Int)) : Prop := (false) = false → ((decide ((wrong + told_here.2) > least_here)) = false → (q_law_told teller teller told_here.1 (wrong + told_here.2)))
theorem b_law_right_4 [CA] {X : Cx} {b : Bs} {t : Tx} (cf : Cf X N_law_right (defScope s_law_right) t.mg (fun _ => true)) (at_ : At X t 23) (hb : Bl t) (hR : b.R = R_law_right) (G_law_copied : FnAt t "_law_copied" 1 ["_law_family_here"] sp_law_copied) (G_law_least : FnAt t "_law_least" 18 ["_law_sets", "_law_points"] (sp_law_least 17)) (G_Foreteller___init__ : MkAt t "Foreteller" CA.f 4 ["self", "family"] (sp_Foreteller___init__ t)) (G_law_number : FnAt t "_law_number" 1 ["_law_cell", "_law_at", "_law_whole"] sp_law_number) (G_law_asked : FnAt t "_law_asked" 23 ["_law_teller", "_law_sets", "_law_point", "_law_there"] (sp_law_asked t)) (G_Foreteller_guess : MethAt t CA.f "guess" 20 ["self", "point"] (sp_Foreteller_guess t)) (G_law_told : FnAt t "_law_told" 2 ["_law_teller", "_law_sets", "_law_wrong"] (sp_law_told t)) (G_Fo : FoAt t CA.f) (family_here : (Int × (List (List Int)))) (script : (List Int)) (against : Bool) (teller : Fo) (wrong : Int) (least_here : Int) (told_here : ((List (List Int)) × Int)) (s1 : (Fo × (List (List Int)) × Int)) (x : (Int × Int)) (h : q_law_right_4 teller wrong least_here told_here) : XB X b false (List.drop 4 (stB (stN ((defBody s_law_right)) 5))) [dv false family_here, dv false script, dv false against, .no, .res (objR t.P t.w CA.f (foQ teller none none)), .no, dv false wrong, dv true least_here, .no, .no, .no, .no, .no, dv false told_here] (m_law_right_4o teller wrong least_here told_here) ((fun (s1 : (Fo × (List (List Int)) × Int)) => [dv false family_here, dv false script, dv false against, .no, .res (objR t.P t.w CA.f (foQ s1.1 none none)), dv false s1.2.1, dv false s1.2.2, dv true least_here, .no, .no, .no, .no, .no, .no]) (m_law_right_4 teller wrong told_here)) :=
  (xb_ifo (Γ1 := []) (xt_cmp cv_isN2 (xe_var cf 13 rfl (.inl rfl) rfl) (xe_non (lv := .bor)) rfl) (fun hc29 => (xb_ret hR (Wk.sub (.drop (.drop (.drop (.drop (.drop (.drop (.drop (.drop (.drop (.drop (.drop (.drop (.drop (.drop .nil))))))))))))))) (xe_bl (lv := (.st false)))))
  (fun hc29 => (xb_seq (xs_par (i := 5) (j := 6) cf rfl rfl (by decide) rfl rfl (k := false) (k' := true) (xe_fst (xe_var cf 13 rfl (.inl rfl) rfl) (fun _ _ => rfl)) (xe_add (lc := (.st true)) (xe_var cf 6 rfl (.inl rfl) rfl) (xe_snd (xe_var cf 13 rfl (.inl rfl) rfl) (fun _ _ => rfl))) (swap2 cf rfl rfl rfl rfl (by decide +kernel) ⟨rfl, rfl⟩ rfl rfl))
  (xb_ifoC (Γ1 := []) (xtc_w (xwc_or (xtc_xt (xt_cmp cv_gt (xe_var cf 6 rfl (.inl rfl) rfl) (xe_var cf 7 rfl (.inl rfl) rfl) rfl)) (fun hc30 => (xwc_or1 (xtc_not (xtc_val (k := false) (xc_sc (xc_fn (j := 4) (os := (foQ teller none none)) cf at_ G_law_told rfl rfl rfl (.inl rfl) ⟨(teller, told_here.1, (wrong + told_here.2)), ((h hc29) hc30)⟩ rfl (fun _ _ _ => rfl) ⟨rfl, rfl⟩ (xa_cons (xe_var cf 5 rfl (.inl rfl) rfl) (xa_cons (xe_sc (xe_var cf 6 rfl (.inl rfl) rfl)) xa_nil)) (.cons (k := false) (.cons (k := false) .nil)))) (by intro _; rfl))))) (fun _ => rfl))) (fun hc31 => (xb_ret hR (Wk.sub (.drop (.drop (.drop (.drop (.drop (.drop (.drop (.drop (.drop (.drop (.drop (.drop (.drop (.drop .nil))))))))))))))) (xe_bl (lv := (.st false)))))
  (fun hc31 => (xb_end (xb_old (j := 6) rfl xb_nil) (.keep (.keep (.keep (.drop (.keep (.keep (.keep (.keep (.drop (.drop (.drop (.drop (.drop (.drop .nil))))))))))))))))))))
def m_law_right_3o (against : Bool) (teller : Fo) (sets : (List (List Int))) (wrong : Int) (least_here : Int) (point : Int) (there : Bool) : (Option Bool) := (m_law_right_4o (po_law_asked teller sets point (cond against (!(m_Foreteller_guess teller point)) there)) wrong least_here (m_law_asked teller sets point (cond against (!(m_Foreteller_guess teller point)) there)))
def m_law_right_3 (against : Bool) (teller : Fo) (sets : (List (List Int))) (wrong : Int) (point : Int) (there : Bool) : (Fo × (List (List Int)) × Int) := (m_law_right_4 (po_law_asked teller sets point (cond against (!(m_Foreteller_guess teller point)) there)) wrong (m_law_asked teller sets point (cond against (!(m_Foreteller_guess teller point)) there)))
def q_law_right_3 (against : Bool) (teller : Fo) (sets : (List (List Int))) (wrong : Int) (least_here : Int) (point : Int) (there : Bool) : Prop := (against = true → (q_Foreteller_guess teller teller point)) ∧ ((q_law_asked (po_law_asked teller sets point (cond against (!(m_Foreteller_guess teller point)) there)) teller sets point (cond against (!(m_Foreteller_guess teller point)) there)) ∧ (q_law_right_4 (po_law_asked teller sets point (cond against (!(m_Foreteller_guess teller point)) there)) wrong least_here (m_law_asked teller sets point (cond against (!(m_Foreteller_guess teller point)) there))))
theorem b_law_right_3 [CA] {X : Cx} {b : Bs} {t : Tx} (cf : Cf X N_law_right (defScope s_law_right) t.mg (fun _ => true)) (at_ : At X t 23) (hb : Bl t) (hR : b.R = R_law_right) (G_law_copied : FnAt t "_law_copied" 1 ["_law_family_here"] sp_law_copied) (G_law_least : FnAt t "_law_least" 18 ["_law_sets", "_law_points"] (sp_law_least 17)) (G_Foreteller___init__ : MkAt t "Foreteller" CA.f 4 ["self", "family"] (sp_Foreteller___init__ t)) (G_law_number : FnAt t "_law_number" 1 ["_law_cell", "_law_at", "_law_whole"] sp_law_number) (G_law_asked : FnAt t "_law_asked" 23 ["_law_teller", "_law_sets", "_law_point", "_law_there"] (sp_law_asked t)) (G_Foreteller_guess : MethAt t CA.f "guess" 20 ["self", "point"] (sp_Foreteller_guess t)) (G_law_told : FnAt t "_law_told" 2 ["_law_teller", "_law_sets", "_law_wrong"] (sp_law_told t)) (G_Fo : FoAt t CA.f) (family_here : (Int × (List (List Int)))) (script : (List Int)) (against : Bool) (teller : Fo) (sets : (List (List Int))) (wrong : Int) (least_here : Int) (point : Int) (there : Bool) (s1 : (Fo × (List (List Int)) × Int)) (x : (Int × Int)) (h : q_law_right_3 against teller sets wrong least_here point there) : XB X b false (List.drop 2 (stB (stN ((defBody s_law_right)) 5))) [dv false family_here, dv false script, dv false against, .no, .res (objR t.P t.w CA.f (foQ teller none none)), dv false sets, dv false wrong, dv true least_here, .no, .no, .no, dv true point, dv true there, .no] (m_law_right_3o against teller sets wrong least_here point there) ((fun (s1 : (Fo × (List (List Int)) × Int)) => [dv false family_here, dv false script, dv false against, .no, .res (objR t.P t.w CA.f (foQ s1.1 none none)), dv false s1.2.1, dv false s1.2.2, dv true least_here, .no, .no, .no, .no, .no, .no]) (m_law_right_3 against teller sets wrong point there)) :=
  (xb_seq (xs_ifE (Γ' := fun (hcB : Bool) => [dv false family_here, dv false script, dv false against, .no, .res (objR t.P t.w CA.f (foQ teller none none)), dv false sets, dv false wrong, dv true least_here, .no, .no, .no, dv true point, dv true (cond hcB (!(m_Foreteller_guess teller point)) there), .no]) (xt_val (xe_var cf 2 rfl (.inl rfl) rfl) (by intro _; rfl)) (fun hc32 => (xb_endW (xb_seq (xs_asgM (k := true) (xc_notB (k := false) (xc_sc (xc_meth (j := 4) (os := (foQ teller none none)) cf at_ G_Fo.cl G_Foreteller_guess rfl rfl (.inl rfl) ⟨(teller, point), (h.1 hc32)⟩ rfl (fun _ _ _ => rfl) ⟨rfl, rfl⟩ (show ("guess" : Str) ∉ (["points", "sets", "wrong"] : List Str) by decide +kernel) (by decide +kernel) (xa_cons (xe_sc (xe_var cf 11 rfl (.inl rfl) rfl)) xa_nil) (.cons (k := false) .nil)))) (xg_name (j := 12) cf rfl (.inl rfl) rfl))
  xb_nil) (Wk.sub (.keep (.keep (.keep (.drop (.keep (.keep (.keep (.keep (.drop (.drop (.drop (.keep (.keep (.drop .nil))))))))))))))))) (fun hc32 => (xb_endW xb_nil (Wk.sub (.keep (.keep (.keep (.drop (.keep (.keep (.keep (.keep (.drop (.drop (.drop (.keep (.keep (.drop .nil))))))))))))))))))
  (xb_seq (xs_asgC (k := false) (xc_fn (j := 4) (os := (foQ teller none none)) cf at_ G_law_asked rfl rfl rfl (.inl rfl) ⟨(teller, sets, point, (cond against (!(m_Foreteller_guess teller point)) there)), h.2.1⟩ rfl (fun _ _ _ => rfl) ⟨rfl, rfl⟩ (xa_cons (xe_var cf 5 rfl (.inl rfl) rfl) (xa_cons (xe_sc (xe_var cf 11 rfl (.inl rfl) rfl)) (xa_cons (xe_sc (xe_var cf 12 rfl (.inl rfl) rfl)) xa_nil))) (.cons (k := false) (.cons (k := false) (.cons (k := false) .nil)))) (xg_name (j := 13) cf rfl (.inl rfl) rfl))
  (xb_sub (b_law_right_4 cf at_ hb hR G_law_copied G_law_least G_Foreteller___init__ G_law_number G_law_asked G_Foreteller_guess G_law_told G_Fo family_here script against (po_law_asked teller sets point (cond against (!(m_Foreteller_guess teller point)) there)) wrong least_here (m_law_asked teller sets point (cond against (!(m_Foreteller_guess teller point)) there)) s1 x h.2.2) (.keep (.keep (.keep (.drop (.keep (.drop (.keep (.keep (.drop (.drop (.drop (.drop (.drop (.keep .nil)))))))))))))))))
def m_law_right_2o (family_here : (Int × (List (List Int)))) (against : Bool) (teller : Fo) (sets : (List (List Int))) (wrong : Int) (least_here : Int) (number_here : Int) : (Option Bool) := (m_law_right_3o against teller sets wrong least_here (number_here % family_here.1) (decide (((number_here / (8 : Int)) % (2 : Int)) = (0 : Int))))
def m_law_right_2 (family_here : (Int × (List (List Int)))) (against : Bool) (teller : Fo) (sets : (List (List Int))) (wrong : Int) (number_here : Int) : (Fo × (List (List Int)) × Int) := (m_law_right_3 against teller sets wrong (number_here % family_here.1) (decide (((number_here / (8 : Int)) % (2 : Int)) = (0 : Int))))
def q_law_right_2 (family_here : (Int × (List (List Int)))) (against : Bool) (teller : Fo) (sets : (List (List Int))) (wrong : Int) (least_here : Int) (number_here : Int) : Prop := (0 < family_here.1) ∧ (q_law_right_3 against teller sets wrong least_here (number_here % family_here.1) (decide (((number_here / (8 : Int)) % (2 : Int)) = (0 : Int))))
theorem b_law_right_2 [CA] {X : Cx} {b : Bs} {t : Tx} (cf : Cf X N_law_right (defScope s_law_right) t.mg (fun _ => true)) (at_ : At X t 23) (hb : Bl t) (hR : b.R = R_law_right) (G_law_copied : FnAt t "_law_copied" 1 ["_law_family_here"] sp_law_copied) (G_law_least : FnAt t "_law_least" 18 ["_law_sets", "_law_points"] (sp_law_least 17)) (G_Foreteller___init__ : MkAt t "Foreteller" CA.f 4 ["self", "family"] (sp_Foreteller___init__ t)) (G_law_number : FnAt t "_law_number" 1 ["_law_cell", "_law_at", "_law_whole"] sp_law_number) (G_law_asked : FnAt t "_law_asked" 23 ["_law_teller", "_law_sets", "_law_point", "_law_there"] (sp_law_asked t)) (G_Foreteller_guess : MethAt t CA.f "guess" 20 ["self", "point"] (sp_Foreteller_guess t)) (G_law_told : FnAt t "_law_told" 2 ["_law_teller", "_law_sets", "_law_wrong"] (sp_law_told t)) (G_Fo : FoAt t CA.f) (family_here : (Int × (List (List Int)))) (script : (List Int)) (against : Bool) (teller : Fo) (sets : (List (List Int))) (wrong : Int) (least_here : Int) (number_here : Int) (s1 : (Fo × (List (List Int)) × Int)) (x : (Int × Int)) (h : q_law_right_2 family_here against teller sets wrong least_here number_here) : XB X b false (List.drop 1 (stB (stN ((defBody s_law_right)) 5))) [dv false family_here, dv false script, dv false against, .no, .res (objR t.P t.w CA.f (foQ teller none none)), dv false sets, dv false wrong, dv true least_here, .no, .no, dv true number_here, .no, .no, .no] (m_law_right_2o family_here against teller sets wrong least_here number_here) ((fun (s1 : (Fo × (List (List Int)) × Int)) => [dv false family_here, dv false script, dv false against, .no, .res (objR t.P t.w CA.f (foQ s1.1 none none)), dv false s1.2.1, dv false s1.2.2, dv true least_here, .no, .no, .no, .no, .no, .no]) (m_law_right_2 family_here against teller sets wrong number_here)) :=
  (xb_seq (xs_par (i := 11) (j := 12) cf rfl rfl (by decide) rfl rfl (k := true) (k' := true) (xe_mod (lc := (.st true)) (xe_var cf 10 rfl (.inl rfl) rfl) (xe_fst (xe_var cf 0 rfl (.inl rfl) rfl) (fun _ _ => rfl)) h.1) (xe_cmp (lc := (.st true)) (cv_eq (α := Int) (n := 0) cf) (xe_mod (lc := .bor) (xe_fdiv (lc := .bor) (xe_var cf 10 rfl (.inl rfl) rfl) (xe_int (lv := .bor)) (by constructor <;> decide)) (xe_int (lv := .bor)) (by decide)) (xe_int (lv := .bor)) rfl) (swap2 cf rfl rfl rfl rfl (by decide +kernel) ⟨rfl, rfl⟩ rfl rfl))
  (xb_sub (b_law_right_3 cf at_ hb hR G_law_copied G_law_least G_Foreteller___init__ G_law_number G_law_asked G_Foreteller_guess G_law_told G_Fo family_here script against teller sets wrong least_here (number_here % family_here.1) (decide (((number_here / (8 : Int)) % (2 : Int)) = (0 : Int))) s1 x h.2) (.keep (.keep (.keep (.drop (.keep (.keep (.keep (.keep (.drop (.drop (.drop (.keep (.keep (.drop .nil))))))))))))))))
def m_law_right_l1 (family_here : (Int × (List (List Int)))) (script : (List Int)) (against : Bool) (s1 : (Fo × (List (List Int)) × Int)) (x : (Int × Int)) : (Fo × (List (List Int)) × Int) := (m_law_right_2 family_here against s1.1 s1.2.1 s1.2.2 (m_law_number x.2 (x.1 + (4 : Int)) ((script).length : Int)))
def m_law_right_l1o (family_here : (Int × (List (List Int)))) (script : (List Int)) (against : Bool) (least_here : Int) (s1 : (Fo × (List (List Int)) × Int)) (x : (Int × Int)) : (Option Bool) := (m_law_right_2o family_here against s1.1 s1.2.1 s1.2.2 least_here (m_law_number x.2 (x.1 + (4 : Int)) ((script).length : Int)))
def q_law_right_l1 (family_here : (Int × (List (List Int)))) (script : (List Int)) (against : Bool) (least_here : Int) (s1 : (Fo × (List (List Int)) × Int)) (x : (Int × Int)) : Prop := (q_law_number x.2 (x.1 + (4 : Int)) ((script).length : Int)) ∧ (q_law_right_2 family_here against s1.1 s1.2.1 s1.2.2 least_here (m_law_number x.2 (x.1 + (4 : Int)) ((script).length : Int)))
theorem b_law_right_l1 [CA] {X : Cx} {b : Bs} {t : Tx} (cf : Cf X N_law_right (defScope s_law_right) t.mg (fun _ => true)) (at_ : At X t 23) (hb : Bl t) (hR : b.R = R_law_right) (G_law_copied : FnAt t "_law_copied" 1 ["_law_family_here"] sp_law_copied) (G_law_least : FnAt t "_law_least" 18 ["_law_sets", "_law_points"] (sp_law_least 17)) (G_Foreteller___init__ : MkAt t "Foreteller" CA.f 4 ["self", "family"] (sp_Foreteller___init__ t)) (G_law_number : FnAt t "_law_number" 1 ["_law_cell", "_law_at", "_law_whole"] sp_law_number) (G_law_asked : FnAt t "_law_asked" 23 ["_law_teller", "_law_sets", "_law_point", "_law_there"] (sp_law_asked t)) (G_Foreteller_guess : MethAt t CA.f "guess" 20 ["self", "point"] (sp_Foreteller_guess t)) (G_law_told : FnAt t "_law_told" 2 ["_law_teller", "_law_sets", "_law_wrong"] (sp_law_told t)) (G_Fo : FoAt t CA.f) (family_here : (Int × (List (List Int)))) (script : (List Int)) (against : Bool) (least_here : Int) (s1 : (Fo × (List (List Int)) × Int)) (x : (Int × Int)) (h : q_law_right_l1 family_here script against least_here s1 x) : XB X b false (stB (stN ((defBody s_law_right)) 5)) [dv false family_here, dv false script, dv false against, .no, .res (objR t.P t.w CA.f (foQ s1.1 none none)), dv false s1.2.1, dv false s1.2.2, dv true least_here, dv true x.1, dv true x.2, .no, .no, .no, .no] ((m_law_right_l1o family_here script against least_here s1 x)) ((fun (s1 : (Fo × (List (List Int)) × Int)) => [dv false family_here, dv false script, dv false against, .no, .res (objR t.P t.w CA.f (foQ s1.1 none none)), dv false s1.2.1, dv false s1.2.2, dv true least_here, .no, .no, .no, .no, .no, .no]) (m_law_right_l1 family_here script against s1 x)) :=
  (xb_seq (xs_asg (k := true) (xe_sc (xe_fn cf at_ G_law_number rfl rfl ⟨(x.2, (x.1 + (4 : Int)), ((script).length : Int)), h.1⟩ (xa_cons (xe_sc (xe_var cf 9 rfl (.inl rfl) rfl)) (xa_cons (xe_add (lc := (.st false)) (xe_var cf 8 rfl (.inl rfl) rfl) (xe_int (lv := .bor))) (xa_cons (xe_callB cf (lc := (.st false)) cl_len rfl hb.n_len bt_len (xa_cons (xe_var cf 1 rfl (.inl rfl) rfl) xa_nil)) xa_nil))) (.cons (k := false) (.cons (k := false) (.cons (k := false) .nil))))) (xg_name (j := 10) cf rfl (.inl rfl) rfl))
  (xb_sub (b_law_right_2 cf at_ hb hR G_law_copied G_law_least G_Foreteller___init__ G_law_number G_law_asked G_Foreteller_guess G_law_told G_Fo family_here script against s1.1 s1.2.1 s1.2.2 least_here (m_law_number x.2 (x.1 + (4 : Int)) ((script).length : Int)) s1 x h.2) (.keep (.keep (.keep (.drop (.keep (.keep (.keep (.keep (.drop (.drop (.keep (.drop (.drop (.drop .nil))))))))))))))))
def m_law_right_1 (family_here : (Int × (List (List Int)))) (script : (List Int)) (against : Bool) (handed : (Int × (List (List Int)))) : Bool := ((loopR (m_law_right_l1o family_here script against (mM family_here.1 family_here.2)) (m_law_right_l1 family_here script against) (enumL ((cutL script none (some (12 : Int))) ++ ([(1 : Int), (6 : Int), (4 : Int)] : (List Int)))) ((fo0 handed), family_here.2, (0 : Int))).1.getD true)
def q_law_right_1 (family_here : (Int × (List (List Int)))) (script : (List Int)) (against : Bool) (handed : (Int × (List (List Int)))) : Prop := (q_Foreteller___init__ handed) ∧ (((InL handed.2 (0 : Int)) ∧ (((getL handed.2 (0 : Int))).length < 1000000 ∧ ((getL handed.2 (0 : Int))).length < 1000 ∧ (handed.2).length < 1000)) ∧ ((qR_law_least 17 (family_here.2, family_here.1)) ∧ ((((cutL script none (some (12 : Int)))).length + (([(1 : Int), (6 : Int), (4 : Int)] : (List Int))).length ≤ 1000000) ∧ (∀ (i : Nat) (s1 : (Fo × (List (List Int)) × Int)) (x : (Int × Int)), (enumL ((cutL script none (some (12 : Int))) ++ ([(1 : Int), (6 : Int), (4 : Int)] : (List Int))))[i]? = some x → loopR (m_law_right_l1o family_here script against (mM family_here.1 family_here.2)) (m_law_right_l1 family_here script against) ((enumL ((cutL script none (some (12 : Int))) ++ ([(1 : Int), (6 : Int), (4 : Int)] : (List Int)))).take i) ((fo0 handed), family_here.2, (0 : Int)) = (none, s1) → q_law_right_l1 family_here script against (mM family_here.1 family_here.2) s1 x))))
theorem b_law_right_1 [CA] {X : Cx} {b : Bs} {t : Tx} (cf : Cf X N_law_right (defScope s_law_right) t.mg (fun _ => true)) (at_ : At X t 23) (hb : Bl t) (hR : b.R = R_law_right) (G_law_copied : FnAt t "_law_copied" 1 ["_law_family_here"] sp_law_copied) (G_law_least : FnAt t "_law_least" 18 ["_law_sets", "_law_points"] (sp_law_least 17)) (G_Foreteller___init__ : MkAt t "Foreteller" CA.f 4 ["self", "family"] (sp_Foreteller___init__ t)) (G_law_number : FnAt t "_law_number" 1 ["_law_cell", "_law_at", "_law_whole"] sp_law_number) (G_law_asked : FnAt t "_law_asked" 23 ["_law_teller", "_law_sets", "_law_point", "_law_there"] (sp_law_asked t)) (G_Foreteller_guess : MethAt t CA.f "guess" 20 ["self", "point"] (sp_Foreteller_guess t)) (G_law_told : FnAt t "_law_told" 2 ["_law_teller", "_law_sets", "_law_wrong"] (sp_law_told t)) (G_Fo : FoAt t CA.f) (family_here : (Int × (List (List Int)))) (script : (List Int)) (against : Bool) (handed : (Int × (List (List Int)))) (h : q_law_right_1 family_here script against handed) : XB X b false (List.drop 1 ((defBody s_law_right))) [dv false family_here, dv false script, dv false against, wv handed, .no, .no, .no, .no, .no, .no, .no, .no, .no, .no] (some (m_law_right_1 family_here script against handed)) [] :=
  (xb_seq (xs_par3N (i := 4) (j := 5) (l := 6) (k := false) (k' := false) cf rfl rfl rfl (by decide) (by decide) (by decide) rfl rfl rfl (xn_of (xn_lend (j := 3) rfl (xo_makeF (post := fun (i : {p // q_Foreteller___init__ p}) => foS (fo0 i.1)) cf at_ G_Foreteller___init__ rfl rfl ⟨handed, h.1⟩ (xa_cons (xe_var cf 3 rfl (.inl rfl) rfl) xa_nil) (.cons (k := false) .nil)))) (xe_snd (xe_var cf 0 rfl (.inl rfl) rfl) (fun _ _ => rfl)) (xe_int (lv := (.st false))) (swap3 cf rfl rfl rfl rfl rfl rfl (by decide +kernel) (by decide +kernel) (by decide +kernel) ⟨rfl, rfl, rfl⟩ rfl rfl))
  (xb_seq (xs_appTB1 (j := 3) cf rfl (xr_ix (xr_snd (xr_var cf 3 rfl (.inl rfl) rfl) (fun _ _ => rfl)) (getL_at h.2.1.1) (fun _ _ => rfl)) (xe_int (lv := .bor)) h.2.1.2)
  (xb_seq (xs_appTB2 (j := 3) cf rfl (.inl rfl) rfl (xe_lst (lv := .bor) (xs := ([] : (List Int))) xa_nil))
  (xb_seq (xs_asg (k := true) (xe_sc (xe_fn cf at_ G_law_least rfl rfl ⟨(family_here.2, family_here.1), h.2.2.1⟩ (xa_cons (xe_snd (xe_var cf 0 rfl (.inl rfl) rfl) (fun _ _ => rfl)) (xa_cons (xe_sc (xe_fst (xe_var cf 0 rfl (.inl rfl) rfl) (fun _ _ => rfl))) xa_nil)) (.cons (k := false) (.cons (k := false) .nil)))) (xg_name (j := 7) cf rfl (.inl rfl) rfl))
  (xb_forr (r2 := fun (s1 : (Fo × (List (List Int)) × Int)) => true) (Γs := (fun (s1 : (Fo × (List (List Int)) × Int)) => [dv false family_here, dv false script, dv false against, .no, .res (objR t.P t.w CA.f (foQ s1.1 none none)), dv false s1.2.1, dv false s1.2.2, dv true (mM family_here.1 family_here.2), .no, .no, .no, .no, .no, .no])) (Γt := (fun (s1 : (Fo × (List (List Int)) × Int)) (x : (Int × Int)) => [dv false family_here, dv false script, dv false against, .no, .res (objR t.P t.w CA.f (foQ s1.1 none none)), dv false s1.2.1, dv false s1.2.2, dv true (mM family_here.1 family_here.2), dv true x.1, dv true x.2, .no, .no, .no, .no])) (step := (m_law_right_l1 family_here script against)) (o := (m_law_right_l1o family_here script against (mM family_here.1 family_here.2))) (js := [8, 9]) (fun i s1 => loopR (m_law_right_l1o family_here script against (mM family_here.1 family_here.2)) (m_law_right_l1 family_here script against) ((enumL ((cutL script none (some (12 : Int))) ++ ([(1 : Int), (6 : Int), (4 : Int)] : (List Int)))).take i) ((fo0 handed), family_here.2, (0 : Int)) = (none, s1)) ((fo0 handed), family_here.2, (0 : Int)) cf (xi_enum cf (xe_catS (lv := (.st true)) (xe_sl (xe_var cf 1 rfl (.inl rfl) rfl) xo_none (xo_some (xe_int (lv := .bor)))) (xe_lst (lv := (.st true)) (xs := ([(1 : Int), (6 : Int), (4 : Int)] : (List Int))) (xa_cons (xe_int (lv := (.st true))) (xa_cons (xe_int (lv := (.st true))) (xa_cons (xe_int (lv := (.st true))) xa_nil)))) h.2.2.2.1) rfl hb.n_enumerate) (.keep (.keep (.keep (.drop (.keep (.keep (.keep (.keep (.drop (.drop (.drop (.drop (.drop (.drop .nil)))))))))))))) rfl (fun s1 x _ => (xg_tup cf (xgs_cons (xg_name (j := 8) cf rfl (.inl rfl) rfl) (xgs_cons (xg_name (j := 9) cf rfl (.inl rfl) rfl) xgs_nil)) rfl)) (fun i s1 x hx hi => (b_law_right_l1 cf at_ hb hR G_law_copied G_law_least G_Foreteller___init__ G_law_number G_law_asked G_Foreteller_guess G_law_told G_Fo family_here script against (mM family_here.1 family_here.2) s1 x (h.2.2.2.2 i s1 x hx hi))) (loopR_Iv _ _ _ _) (fun s1 hn hs => (xb_ret hR (Wk.sub (.drop (.drop (.drop (.drop (.drop (.drop (.drop (.drop (.drop (.drop (.drop (.drop (.drop (.drop .nil))))))))))))))) (xe_bl (lv := (.st false))))))))))
def m_law_right (family_here : (Int × (List (List Int)))) (script : (List Int)) (against : Bool) : Bool := (m_law_right_1 family_here script against (m_law_copied family_here))
def q_law_right (family_here : (Int × (List (List Int)))) (script : (List Int)) (against : Bool) : Prop := q_law_right_1 family_here script against (m_law_copied family_here)
theorem b_law_right [CA] {X : Cx} {b : Bs} {t : Tx} (cf : Cf X N_law_right (defScope s_law_right) t.mg (fun _ => true)) (at_ : At X t 23) (hb : Bl t) (hR : b.R = R_law_right) (G_law_copied : FnAt t "_law_copied" 1 ["_law_family_here"] sp_law_copied) (G_law_least : FnAt t "_law_least" 18 ["_law_sets", "_law_points"] (sp_law_least 17)) (G_Foreteller___init__ : MkAt t "Foreteller" CA.f 4 ["self", "family"] (sp_Foreteller___init__ t)) (G_law_number : FnAt t "_law_number" 1 ["_law_cell", "_law_at", "_law_whole"] sp_law_number) (G_law_asked : FnAt t "_law_asked" 23 ["_law_teller", "_law_sets", "_law_point", "_law_there"] (sp_law_asked t)) (G_Foreteller_guess : MethAt t CA.f "guess" 20 ["self", "point"] (sp_Foreteller_guess t)) (G_law_told : FnAt t "_law_told" 2 ["_law_teller", "_law_sets", "_law_wrong"] (sp_law_told t)) (G_Fo : FoAt t CA.f) (family_here : (Int × (List (List Int)))) (script : (List Int)) (against : Bool) (h : q_law_right family_here script against) : XB X b false (defBody s_law_right) [dv false family_here, dv false script, dv false against, .no, .no, .no, .no, .no, .no, .no, .no, .no, .no, .no] (some (m_law_right family_here script against)) [] :=
  (xb_seq (xs_asgD (j := 3) cf rfl (.inl rfl) rfl (xd_fn cf at_ G_law_copied rfl rfl ⟨family_here, trivial⟩ (xa_cons (xe_var cf 0 rfl (.inl rfl) rfl) xa_nil) (.cons (k := false) .nil)))
  (xb_sub (b_law_right_1 cf at_ hb hR G_law_copied G_law_least G_Foreteller___init__ G_law_number G_law_asked G_Foreteller_guess G_law_told G_Fo family_here script against (m_law_copied family_here) h) (.keep (.keep (.keep (.keep (.drop (.drop (.drop (.drop (.drop (.drop (.drop (.drop (.drop (.drop .nil))))))))))))))))
abbrev sp_law_right [CA] : Sp := spI false (fun (i : {p : ((Int × (List (List Int))) × (List Int) × Bool) // q_law_right p.1 p.2.1 p.2.2}) => [dv false i.1.1, dv false i.1.2.1, dv false i.1.2.2]) (fun i => Py.enc (m_law_right i.1.1 i.1.2.1 i.1.2.2))
theorem ok_law_right [CA] {t : Tx} (D : DefAt t "_law_right" s_law_right) (hb : Bl t) (G_law_copied : FnAt t "_law_copied" 1 ["_law_family_here"] sp_law_copied) (G_law_least : FnAt t "_law_least" 18 ["_law_sets", "_law_points"] (sp_law_least 17)) (G_Foreteller___init__ : MkAt t "Foreteller" CA.f 4 ["self", "family"] (sp_Foreteller___init__ t)) (G_law_number : FnAt t "_law_number" 1 ["_law_cell", "_law_at", "_law_whole"] sp_law_number) (G_law_asked : FnAt t "_law_asked" 23 ["_law_teller", "_law_sets", "_law_point", "_law_there"] (sp_law_asked t)) (G_Foreteller_guess : MethAt t CA.f "guess" 20 ["self", "point"] (sp_Foreteller_guess t)) (G_law_told : FnAt t "_law_told" 2 ["_law_teller", "_law_sets", "_law_wrong"] (sp_law_told t)) (G_Fo : FoAt t CA.f) : FnAt t "_law_right" 24 ["_law_family_here", "_law_script", "_law_against"] sp_law_right :=
  fn_def (k := 23) D sc_law_right (fun _ _ _ _ _ _ us hl => match us, hl with | [_, _, _], _ => rfl) (fun _ => rfl) fun X b i cf at_ hR => b_law_right cf at_ hb hR G_law_copied G_law_least G_Foreteller___init__ G_law_number G_law_asked G_Foreteller_guess G_law_told G_Fo i.1.1 i.1.2.1 i.1.2.2 i.2
/-! ### law -/
abbrev s_law : Stmt := top 31
abbrev N_law : List Str := ["_law_script", "_law_by", "_law_family_here", "_law_teller"]
abbrev R_law : List En := [.no, .no, .no, .no]
theorem sc_law : FnScope N_law ["_law_script"] (defScope s_law) := ⟨rfl, rfl, rfl, by decide +kernel, rfl, by decide +kernel, by decide +kernel⟩
def m_law_1o (script : (List Int)) (family_here : (Int × (List (List Int)))) : (Option Bool) := (cond ((!(m_law_right family_here script false)) || (!(m_law_right family_here script true))) (some false) none)
def m_law_1 : Unit := ()
def q_law_1 (script : (List Int)) (family_here : (Int × (List (List Int)))) : Prop := (q_law_right family_here script false) ∧ ((!(m_law_right family_here script false)) = false → (q_law_right family_here script true))
theorem b_law_1 [CA] {X : Cx} {b : Bs} {t : Tx} (cf : Cf X N_law (defScope s_law) t.mg (fun _ => true)) (at_ : At X t 24) (hb : Bl t) (hR : b.R = R_law) (G_Foreteller___init__ : MkAt t "Foreteller" CA.f 4 ["self", "family"] (sp_Foreteller___init__ t)) (G_law_family : FnAt t "_law_family" 2 ["_law_script", "_law_by", "_law_points", "_law_most"] sp_law_family) (G_law_none : FnAt t "_law_none" 22 ["_law_teller", "_law_point", "_law_there"] (sp_law_none t)) (G_Foreteller_guess : MethAt t CA.f "guess" 20 ["self", "point"] (sp_Foreteller_guess t)) (G_Foreteller_tell : MethAt t CA.f "tell" 21 ["self", "point", "there"] (sp_Foreteller_tell t)) (G_law_right : FnAt t "_law_right" 24 ["_law_family_here", "_law_script", "_law_against"] sp_law_right) (G_Fo : FoAt t CA.f) (script : (List Int)) (family_here : (Int × (List (List Int)))) (s1 : Unit) (by0 : Int) (h : q_law_1 script family_here) : XB X b false (List.drop 1 (stB (stN ((defBody s_law)) 0))) [dv false script, .no, dv true family_here, .no] (m_law_1o script family_here) ((fun (s1 : Unit) => [dv false script, .no, .no, .no]) m_law_1) :=
  (xb_ifo (Γ1 := []) (xt_w (xw_or (xt_not (xt_val (xe_fn cf at_ G_law_right rfl rfl ⟨(family_here, script, false), h.1⟩ (xa_cons (xe_var cf 2 rfl (.inl rfl) rfl) (xa_cons (xe_var cf 0 rfl (.inl rfl) rfl) (xa_cons (xe_bl (lv := (.st false))) xa_nil))) (.cons (k := true) (.cons (k := false) (.cons (k := false) .nil)))) (by intro _; rfl))) (fun hc33 => (xw_or1 (xt_not (xt_val (xe_fn cf at_ G_law_right rfl rfl ⟨(family_here, script, true), (h.2 hc33)⟩ (xa_cons (xe_var cf 2 rfl (.inl rfl) rfl) (xa_cons (xe_var cf 0 rfl (.inl rfl) rfl) (xa_cons (xe_bl (lv := (.st false))) xa_nil))) (.cons (k := true) (.cons (k := false) (.cons (k := false) .nil)))) (by intro _; rfl))))))) (fun hc34 => (xb_ret hR (Wk.sub (.drop (.drop (.drop (.drop .nil))))) (xe_bl (lv := (.st false)))))
  (fun hc34 => (xb_end xb_nil (.keep (.drop (.drop (.drop .nil)))))))
def m_law_l1 (s1 : Unit) (by0 : Int) : Unit := m_law_1
def m_law_l1o (script : (List Int)) (s1 : Unit) (by0 : Int) : (Option Bool) := (m_law_1o script (m_law_family script by0 (5 : Int) (8 : Int)))
def q_law_l1 (script : (List Int)) (s1 : Unit) (by0 : Int) : Prop := (q_law_family script by0 (5 : Int) (8 : Int)) ∧ (q_law_1 script (m_law_family script by0 (5 : Int) (8 : Int)))
theorem b_law_l1 [CA] {X : Cx} {b : Bs} {t : Tx} (cf : Cf X N_law (defScope s_law) t.mg (fun _ => true)) (at_ : At X t 24) (hb : Bl t) (hR : b.R = R_law) (G_Foreteller___init__ : MkAt t "Foreteller" CA.f 4 ["self", "family"] (sp_Foreteller___init__ t)) (G_law_family : FnAt t "_law_family" 2 ["_law_script", "_law_by", "_law_points", "_law_most"] sp_law_family) (G_law_none : FnAt t "_law_none" 22 ["_law_teller", "_law_point", "_law_there"] (sp_law_none t)) (G_Foreteller_guess : MethAt t CA.f "guess" 20 ["self", "point"] (sp_Foreteller_guess t)) (G_Foreteller_tell : MethAt t CA.f "tell" 21 ["self", "point", "there"] (sp_Foreteller_tell t)) (G_law_right : FnAt t "_law_right" 24 ["_law_family_here", "_law_script", "_law_against"] sp_law_right) (G_Fo : FoAt t CA.f) (script : (List Int)) (s1 : Unit) (by0 : Int) (h : q_law_l1 script s1 by0) : XB X b false (stB (stN ((defBody s_law)) 0)) [dv false script, dv true by0, .no, .no] ((m_law_l1o script s1 by0)) ((fun (s1 : Unit) => [dv false script, .no, .no, .no]) (m_law_l1 s1 by0)) :=
  (xb_seq (xs_asg (k := true) (xe_fn cf at_ G_law_family rfl rfl ⟨(script, by0, (5 : Int), (8 : Int)), h.1⟩ (xa_cons (xe_var cf 0 rfl (.inl rfl) rfl) (xa_cons (xe_sc (xe_var cf 1 rfl (.inl rfl) rfl)) (xa_cons (xe_int (lv := (.st false))) (xa_cons (xe_int (lv := (.st false))) xa_nil)))) (.cons (k := false) (.cons (k := false) (.cons (k := false) (.cons (k := false) .nil))))) (xg_name (j := 2) cf rfl (.inl rfl) rfl))
  (xb_sub (b_law_1 cf at_ hb hR G_Foreteller___init__ G_law_family G_law_none G_Foreteller_guess G_Foreteller_tell G_law_right G_Fo script (m_law_family script by0 (5 : Int) (8 : Int)) s1 by0 h.2) (.keep (.drop (.keep (.drop .nil))))))
def m_law_2 (teller : Fo) : Bool := ((decide ((m_Foreteller_guess teller (0 : Int)) = true)) && ((m_law_none teller (0 : Int) false) && (decide ((m_Foreteller_tell teller (0 : Int) true) = true))))
def q_law_2 (teller : Fo) : Prop := (q_Foreteller_guess teller teller (0 : Int)) ∧ ((decide ((m_Foreteller_guess teller (0 : Int)) = true)) = true → (q_law_none teller teller (0 : Int) false) ∧ ((m_law_none teller (0 : Int) false) = true → (q_Foreteller_tell (po_Foreteller_tell teller (0 : Int) true) teller (0 : Int) true)))
theorem b_law_2 [CA] {X : Cx} {b : Bs} {t : Tx} (cf : Cf X N_law (defScope s_law) t.mg (fun _ => true)) (at_ : At X t 24) (hb : Bl t) (hR : b.R = R_law) (G_Foreteller___init__ : MkAt t "Foreteller" CA.f 4 ["self", "family"] (sp_Foreteller___init__ t)) (G_law_family : FnAt t "_law_family" 2 ["_law_script", "_law_by", "_law_points", "_law_most"] sp_law_family) (G_law_none : FnAt t "_law_none" 22 ["_law_teller", "_law_point", "_law_there"] (sp_law_none t)) (G_Foreteller_guess : MethAt t CA.f "guess" 20 ["self", "point"] (sp_Foreteller_guess t)) (G_Foreteller_tell : MethAt t CA.f "tell" 21 ["self", "point", "there"] (sp_Foreteller_tell t)) (G_law_right : FnAt t "_law_right" 24 ["_law_family_here", "_law_script", "_law_against"] sp_law_right) (G_Fo : FoAt t CA.f) (teller : Fo) (h : q_law_2 teller) : XB X b false (List.drop 2 ((defBody s_law))) [.no, .no, .no, .res (objR t.P t.w CA.f (foQ teller none none))] (some (m_law_2 teller)) [] :=
  (xb_retC hR (Wk.sub (.drop (.drop (.drop (.drop .nil))))) (xc_sc (k := false) (xc_andW (k := false) (xc_sc (k := false) (xc_cmp (k := false) (k' := false) cv_isB (xc_sc (xc_meth (j := 3) (os := (foQ teller none none)) cf at_ G_Fo.cl G_Foreteller_guess rfl rfl (.inl rfl) ⟨(teller, (0 : Int)), h.1⟩ rfl (fun _ _ _ => rfl) ⟨rfl, rfl⟩ (show ("guess" : Str) ∉ (["points", "sets", "wrong"] : List Str) by decide +kernel) (by decide +kernel) (xa_cons (xe_int (lv := (.st false))) xa_nil) (.cons (k := false) .nil))) (xc_xe (xe_bl (lv := (.st false)))) rfl)) (fun hc35 => (xc_andW (k := false) (xc_sc (xc_fn (j := 3) (os := (foQ teller none none)) cf at_ G_law_none rfl rfl rfl (.inl rfl) ⟨(teller, (0 : Int), false), (h.2 hc35).1⟩ rfl (fun _ _ _ => rfl) ⟨rfl, rfl⟩ (xa_cons (xe_int (lv := (.st false))) (xa_cons (xe_bl (lv := (.st false))) xa_nil)) (.cons (k := false) (.cons (k := false) .nil)))) (fun hc36 => (xc_one (xc_wk (xc_sc (k := false) (xc_cmp (k := false) (k' := false) cv_isB (xc_sc (xc_meth (j := 3) (os := (foQ teller none none)) cf at_ G_Fo.cl G_Foreteller_tell rfl rfl (.inl rfl) ⟨(teller, (0 : Int), true), ((h.2 hc35).2 hc36)⟩ rfl (fun _ _ _ => rfl) ⟨rfl, rfl⟩ (show ("tell" : Str) ∉ (["points", "sets", "wrong"] : List Str) by decide +kernel) (by decide +kernel) (xa_cons (xe_int (lv := (.st false))) (xa_cons (xe_bl (lv := (.st false))) xa_nil)) (.cons (k := false) (.cons (k := false) .nil)))) (xc_xe (xe_bl (lv := (.st false)))) rfl)) (Wk.sub (.drop (.drop (.drop (.drop .nil)))))))) (Wk.sub (.drop (.drop (.drop (.drop .nil))))))) (Wk.sub (.drop (.drop (.drop (.drop .nil))))))))
def m_law (script : (List Int)) : Bool := ((loopR (m_law_l1o script) m_law_l1 ([(0 : Int), (2 : Int)] : (List Int)) ()).1.getD (m_law_2 (fo0 ((1 : Int), ([([(0 : Int)] : (List Int))] : (List (List Int)))))))
def q_law (script : (List Int)) : Prop := (∀ (i : Nat) (s1 : Unit) (by0 : Int), ([(0 : Int), (2 : Int)] : (List Int))[i]? = some by0 → loopR (m_law_l1o script) m_law_l1 (([(0 : Int), (2 : Int)] : (List Int)).take i) () = (none, s1) → q_law_l1 script s1 by0) ∧ (∀ s1, (loopR (m_law_l1o script) m_law_l1 ([(0 : Int), (2 : Int)] : (List Int)) ()).1 = none → s1 = (loopR (m_law_l1o script) m_law_l1 ([(0 : Int), (2 : Int)] : (List Int)) ()).2 → ((q_Foreteller___init__ ((1 : Int), ([([(0 : Int)] : (List Int))] : (List (List Int))))) ∧ (q_law_2 (fo0 ((1 : Int), ([([(0 : Int)] : (List Int))] : (List (List Int))))))))
theorem b_law [CA] {X : Cx} {b : Bs} {t : Tx} (cf : Cf X N_law (defScope s_law) t.mg (fun _ => true)) (at_ : At X t 24) (hb : Bl t) (hR : b.R = R_law) (G_Foreteller___init__ : MkAt t "Foreteller" CA.f 4 ["self", "family"] (sp_Foreteller___init__ t)) (G_law_family : FnAt t "_law_family" 2 ["_law_script", "_law_by", "_law_points", "_law_most"] sp_law_family) (G_law_none : FnAt t "_law_none" 22 ["_law_teller", "_law_point", "_law_there"] (sp_law_none t)) (G_Foreteller_guess : MethAt t CA.f "guess" 20 ["self", "point"] (sp_Foreteller_guess t)) (G_Foreteller_tell : MethAt t CA.f "tell" 21 ["self", "point", "there"] (sp_Foreteller_tell t)) (G_law_right : FnAt t "_law_right" 24 ["_law_family_here", "_law_script", "_law_against"] sp_law_right) (G_Fo : FoAt t CA.f) (script : (List Int)) (h : q_law script) : XB X b false (defBody s_law) [dv false script, .no, .no, .no] (some (m_law script)) [] :=
  (xb_forr (r2 := fun (s1 : Unit) => (m_law_2 (fo0 ((1 : Int), ([([(0 : Int)] : (List Int))] : (List (List Int))))))) (Γs := (fun (s1 : Unit) => [dv false script, .no, .no, .no])) (Γt := (fun (s1 : Unit) (by0 : Int) => [dv false script, dv true by0, .no, .no])) (step := m_law_l1) (o := (m_law_l1o script)) (js := [1]) (fun i s1 => loopR (m_law_l1o script) m_law_l1 (([(0 : Int), (2 : Int)] : (List Int)).take i) () = (none, s1)) () cf (xi_list (xe_lst (lv := (.st true)) (xs := ([(0 : Int), (2 : Int)] : (List Int))) (xa_cons (xe_int (lv := (.st true))) (xa_cons (xe_int (lv := (.st true))) xa_nil)))) (.keep (.drop (.drop (.drop .nil)))) rfl (fun s1 by0 _ => (xg_name (j := 1) cf rfl (.inl rfl) rfl)) (fun i s1 by0 hx hi => (b_law_l1 cf at_ hb hR G_Foreteller___init__ G_law_family G_law_none G_Foreteller_guess G_Foreteller_tell G_law_right G_Fo script s1 by0 (h.1 i s1 by0 hx hi))) (loopR_Iv _ _ _ _) (fun s1 hn hs => (xb_seq (xs_asgN (j := 3) cf rfl (.inl rfl) rfl (xn_of (xo_makeF (post := fun (i : {p // q_Foreteller___init__ p}) => foS (fo0 i.1)) cf at_ G_Foreteller___init__ rfl rfl ⟨((1 : Int), ([([(0 : Int)] : (List Int))] : (List (List Int)))), (h.2 s1 hn hs).1⟩ (xa_cons (xe_t2 (lv := (.st true)) (xe_int (lv := (.st true))) (xe_lst (lv := (.st true)) (xs := ([([(0 : Int)] : (List Int))] : (List (List Int)))) (xa_cons (xe_lst (lv := (.st true)) (xs := ([(0 : Int)] : (List Int))) (xa_cons (xe_int (lv := (.st true))) xa_nil)) xa_nil))) xa_nil) (.cons (k := true) .nil))))
  (xb_sub (b_law_2 cf at_ hb hR G_Foreteller___init__ G_law_family G_law_none G_Foreteller_guess G_Foreteller_tell G_law_right G_Fo (fo0 ((1 : Int), ([([(0 : Int)] : (List Int))] : (List (List Int))))) ((h.2 s1 hn hs).2)) (.drop (.drop (.drop (.keep .nil))))))))
abbrev sp_law [CA] : Sp := spI false (fun (i : {p : (List Int) // q_law p}) => [dv false i.1]) (fun i => Py.enc (m_law i.1))
theorem ok_law [CA] {t : Tx} (D : DefAt t "law" s_law) (hb : Bl t) (G_Foreteller___init__ : MkAt t "Foreteller" CA.f 4 ["self", "family"] (sp_Foreteller___init__ t)) (G_law_family : FnAt t "_law_family" 2 ["_law_script", "_law_by", "_law_points", "_law_most"] sp_law_family) (G_law_none : FnAt t "_law_none" 22 ["_law_teller", "_law_point", "_law_there"] (sp_law_none t)) (G_Foreteller_guess : MethAt t CA.f "guess" 20 ["self", "point"] (sp_Foreteller_guess t)) (G_Foreteller_tell : MethAt t CA.f "tell" 21 ["self", "point", "there"] (sp_Foreteller_tell t)) (G_law_right : FnAt t "_law_right" 24 ["_law_family_here", "_law_script", "_law_against"] sp_law_right) (G_Fo : FoAt t CA.f) : FnAt t "law" 25 ["_law_script"] sp_law :=
  fn_def (k := 24) D sc_law (fun _ _ _ _ _ _ us hl => match us, hl with | [_], _ => rfl) (fun _ => rfl) fun X b i cf at_ hR => b_law cf at_ hb hR G_Foreteller___init__ G_law_family G_law_none G_Foreteller_guess G_Foreteller_tell G_law_right G_Fo i.1 i.2
end G

namespace G
open PySem PySem.Spec PyProof.Rows L2 Zk

/-! ### the law's families: any script, what the conditions want, what they are -/
theorem number_q {cell at0 whole : Int} (hc : Bd cell 1048576) (ha : 0 ≤ at0 ∧ at0 < 1000) : q_law_number cell at0 whole := by
  refine ⟨fun _ => div_small (by omega) (by omega), fun _ => ⟨⟨?_, ?_⟩, ?_⟩⟩
  · exact Bd.ok (k := 10) (l := 10) (Bd.lit (by decide)) (Bd.lt 1000 (by omega) (by decide)) (by decide)
  · exact Bd.ok (l := 16) (hc.add (Bd.mul (k := 10) (l := 10) (Bd.lit (by decide)) (Bd.lt 1000 (by omega) (by decide)))) (Bd.lit (by decide)) (by omega)
  · generalize hb : ((cell + 977 * at0) * 48271 + whole) % 2147483647 = blend
    have b0 : 0 ≤ blend ∧ blend < 2147483647 := by rw [← hb]; omega
    have bb : Bd blend 31 := Bd.lt 2147483647 (by omega) (by decide)
    have a10 : Bd at0 10 := Bd.lt 1000 (by omega) (by decide)
    have c1 := (hc.add (Bd.mul (Bd.lit (x := 31) (k := 5) (by decide)) a10)).add (Bd.lit (x := 7) (k := 3) (by decide))
    have c2 := bb.mul c1
    have c3 := (bb.add hc).add (Bd.lit (x := 5) (k := 3) (by decide))
    have c4 := (bb.mul bb).add (Bd.lit (x := 11) (k := 4) (by decide))
    exact ⟨⟨Bd.ok (Bd.lit (k := 5) (by decide)) a10 (by omega), Bd.ok bb c1 (by omega)⟩, ⟨Bd.ok c2 c3 (by omega), Bd.ok bb bb (by omega), Bd.ok (c2.mul c3) c4 (by omega)⟩, div_small (by omega) (by omega)⟩
theorem fam7 {many : Int} {i : Nat} {found : List (List Int)} {some0 : List Int} (hf : found.length ≤ i) (hn : found.Nodup) (hr : ∀ f ∈ found, Ris many f) (hs : Ris many some0) (hi : i < 1000) :
    q_law_family_7 found some0 ∧ (m_law_family_7 found some0).length ≤ i + 1 ∧ (m_law_family_7 found some0).Nodup ∧ (∀ f ∈ m_law_family_7 found some0, Ris many f) ∧ m_law_family_7 found some0 ≠ [] := by
  refine ⟨fun _ => by omega, ?_⟩
  unfold m_law_family_7
  cases hm : memB some0 found with
  | true =>
    show found.length ≤ i + 1 ∧ found.Nodup ∧ (∀ f ∈ found, Ris many f) ∧ found ≠ []
    refine ⟨by omega, hn, hr, fun z => ?_⟩
    have := memB_t.mp hm
    rw [z] at this
    cases this
  | false =>
    show (found ++ [some0]).length ≤ i + 1 ∧ (found ++ [some0]).Nodup ∧ (∀ f ∈ found ++ [some0], Ris many f) ∧ found ++ [some0] ≠ []
    refine ⟨by simp; omega, ?_, fun f hf => ?_, by simp⟩
    · rw [List.nodup_append]
      refine ⟨hn, by simp, fun a ha b hb => ?_⟩
      have hb' : b = some0 := by simpa using hb
      subst hb'
      intro z
      subst z
      exact memB_f.mp hm ha
    · rcases List.mem_append.mp hf with h | h
      · exact hr f h
      · have : f = some0 := by simpa using h
        subst this
        exact hs
theorem fam4 {many kind at0 : Int} {i : Nat} {found : List (List Int)} {some0 : List Int} (h1 : 1 ≤ many) (h8 : many ≤ 1000) (ha : 0 ≤ at0 ∧ at0 < 1000) (hf : found.length ≤ i) (hn : found.Nodup) (hr : ∀ f ∈ found, Ris many f) (hs : Ris many some0) (hi : i < 1000) :
    q_law_family_4 many kind found at0 some0 ∧ (m_law_family_4 many kind found at0 some0).length ≤ i + 1 ∧ (m_law_family_4 many kind found at0 some0).Nodup ∧ (∀ f ∈ m_law_family_4 many kind found at0 some0, Ris many f) ∧ m_law_family_4 many kind found at0 some0 ≠ [] := by
  have e1 : 0 ≤ at0 % (many + 1) := Int.emod_nonneg _ (by omega)
  have e2 : at0 % (many + 1) < many + 1 := Int.emod_lt_of_pos _ (by omega)
  have e3 : 0 ≤ at0 % many := Int.emod_nonneg _ (by omega)
  have e4 : at0 % many < many := Int.emod_lt_of_pos _ (by omega)
  unfold q_law_family_4 m_law_family_4 q_law_family_5 m_law_family_5 q_law_family_6 m_law_family_6
  have s1 : Ris many (cond (decide (kind = (1 : Int))) (rg 0 ((at0 % (many + (1 : Int)))).toNat) some0) := by
    cases decide (kind = 1)
    · exact hs
    · exact ris_rg (by omega)
  generalize (cond (decide (kind = (1 : Int))) (rg 0 ((at0 % (many + (1 : Int)))).toNat) some0) = u1 at s1
  have s2 : Ris many (cond (decide (kind = (2 : Int))) (cond (decide (at0 < many)) ([(at0 % many)] : (List Int)) u1) u1) := by
    cases decide (kind = 2)
    · exact s1
    · cases decide (at0 < many)
      · exact s1
      · exact ris_one e3 e4
  generalize (cond (decide (kind = (2 : Int))) (cond (decide (at0 < many)) ([(at0 % many)] : (List Int)) u1) u1) = u2 at s2
  have s3 : Ris many (cond (decide (kind = (3 : Int))) ((rg 0 ((min many (3 : Int))).toNat).filter fun (point_ : Int) => (decide ((Builtin.bitAnd (at0 / 2 ^ (point_).toNat) (1 : Int)) = (1 : Int)))) u2) := by
    cases decide (kind = 3)
    · exact s2
    · exact ((ris_rg (n := min many 3) (by omega)).filter _).up (by omega)
  generalize (cond (decide (kind = (3 : Int))) ((rg 0 ((min many (3 : Int))).toNat).filter fun (point_ : Int) => (decide ((Builtin.bitAnd (at0 / 2 ^ (point_).toNat) (1 : Int)) = (1 : Int)))) u2) = u3 at s3
  obtain ⟨a, b⟩ := fam7 hf hn hr s3 hi
  exact ⟨⟨fun _ => ⟨by omega, by omega, by omega⟩, fun _ => fun _ => by omega, fun _ => ⟨⟨by omega, by omega⟩, fun p hp => (mem_rg.mp hp).1⟩, a⟩, b⟩
theorem fam_ok {script : List Int} {by0 points most : Int} (hl : script.length ≤ 63) (hb : ∀ z ∈ script, Builtin.Int.intBits z ≤ 1048576) (h0 : 0 ≤ by0 ∧ by0 < 100) (hp : 1 ≤ points ∧ points ≤ 8) (hm : 1 ≤ most ∧ most ≤ 16) :
    q_law_family script by0 points most ∧ Fam points most (m_law_family script by0 points most) := by
  unfold q_law_family m_law_family
  have hc : ∃ cells : List Int, (cond (!decide (script = ([] : (List Int)))) (cutL script none (some (63 : Int))) ([(3 : Int)] : (List Int))) = cells ∧ cells ≠ [] ∧ (∀ z ∈ cells, Bd z 1048576) := by
    by_cases z : script = []
    · subst z
      exact ⟨[3], rfl, by simp, fun z hz => by
        have : z = 3 := by simpa using hz
        subst this
        exact (Bd.lit (k := 2) (by decide)).up (by decide)⟩
    · refine ⟨script, ?_, z, fun z hz => Bd.bits (hb z hz)⟩
      rw [decide_eq_false z]
      show cutL script none (some 63) = script
      rw [cutL_take (by decide), List.take_of_length_le (by show script.length ≤ 63; exact hl)]
  obtain ⟨cells, he, hne, hcb⟩ := hc
  rw [he]
  unfold q_law_family_1 m_law_family_1
  generalize hw : ((((cells).sum).natAbs : Int) + by0) = whole
  have hw0 : 0 ≤ whole := by omega
  have w1 : 0 ≤ whole % points := Int.emod_nonneg _ (by omega)
  have w2 : whole % points < points := Int.emod_lt_of_pos _ (by omega)
  have w3 : 0 ≤ whole / 3 % most := Int.emod_nonneg _ (by omega)
  have w4 : whole / 3 % most < most := Int.emod_lt_of_pos _ (by omega)
  unfold q_law_family_2 m_law_family_2 q_law_family_3 m_law_family_3
  have hcl : 0 < (cells.length : Int) := by
    have := List.length_pos_iff.mpr hne
    omega
  have key : ∀ (i : Nat) (s : List (List Int)) (at0 : Int), (rg 0 (1 + whole / 3 % most).toNat)[i]? = some at0 → (s.length ≤ i ∧ s.Nodup ∧ ∀ f ∈ s, Ris (1 + whole % points) f) →
      q_law_family_l1 by0 cells whole (1 + whole % points) (whole / points % 5) s at0 ∧ (m_law_family_l1 by0 cells whole (1 + whole % points) (whole / points % 5) s at0).length ≤ i + 1 ∧ (m_law_family_l1 by0 cells whole (1 + whole % points) (whole / points % 5) s at0).Nodup ∧
        (∀ f ∈ m_law_family_l1 by0 cells whole (1 + whole % points) (whole / points % 5) s at0, Ris (1 + whole % points) f) ∧ m_law_family_l1 by0 cells whole (1 + whole % points) (whole / points % 5) s at0 ≠ [] := by
    rintro i s at0 hx ⟨c1, c2, c3⟩
    obtain ⟨hi, rfl⟩ := rg_get hx
    have d1 : 0 ≤ ((0 + (i : Int)) + by0) % (cells.length : Int) := Int.emod_nonneg _ (by omega)
    have d2 : ((0 + (i : Int)) + by0) % (cells.length : Int) < cells.length := Int.emod_lt_of_pos _ hcl
    unfold q_law_family_l1 m_law_family_l1
    have hnum : Bd (getL cells (((0 + (i : Int)) + by0) % (cells.length : Int))) 1048576 := by
      rw [getL_nn d1 d2]
      exact hcb _ (List.getElem_mem _)
    obtain ⟨a, b⟩ := fam4 (kind := whole / points % 5) (at0 := 0 + (i : Int)) (some0 := (rg 0 (1 + whole % points).toNat).filter fun (point_ : Int) => (decide ((Builtin.bitAnd (((m_law_number (getL cells (((0 + (i : Int)) + by0) % ((cells).length : Int))) ((0 + (i : Int)) + by0) whole) / (3 : Int)) / 2 ^ (point_).toNat) (1 : Int)) = (1 : Int)))) (many := 1 + whole % points) (by omega) (by omega) (by omega) c1 c2 c3 ((ris_rg (by omega)).filter _) (by omega)
    exact ⟨⟨⟨⟨hcl, in_nn d1 d2⟩, number_q hnum (by omega)⟩, ⟨⟨by omega, by omega⟩, fun p hp => (mem_rg.mp hp).1⟩, a⟩, b⟩
  have inv : ∀ i, i ≤ (rg 0 (1 + whole / 3 % most).toNat).length → ∀ s, ((rg 0 (1 + whole / 3 % most).toNat).take i).foldl (m_law_family_l1 by0 cells whole (1 + whole % points) (whole / points % 5)) [] = s →
      s.length ≤ i ∧ s.Nodup ∧ (∀ f ∈ s, Ris (1 + whole % points) f) ∧ (0 < i → s ≠ []) := fun i hi s hs => by
    subst hs
    refine foldl_take (fun i s => s.length ≤ i ∧ s.Nodup ∧ (∀ f ∈ s, Ris (1 + whole % points) f) ∧ (0 < i → s ≠ [])) ⟨Nat.le_refl _, List.nodup_nil, fun f hf => by simp at hf, fun h => absurd h (Nat.lt_irrefl _)⟩ (fun i s x hx ⟨c1, c2, c3, _⟩ => ?_) i hi
    obtain ⟨_, b1, b2, b3, b4⟩ := key i s x hx ⟨c1, c2, c3⟩
    exact ⟨b1, b2, b3, fun _ => b4⟩
  refine ⟨⟨⟨by omega, div_small (by omega) (by omega)⟩, ⟨by omega, by omega, by omega⟩, fun i s at0 hx hs => ?_⟩, ?_⟩
  · obtain ⟨c1, c2, c3, _⟩ := inv i (Nat.le_of_lt (lt_of_get hx)) s hs
    exact (key i s at0 hx ⟨c1, c2, c3⟩).1
  · have := inv _ (Nat.le_refl _) _ rfl
    rw [List.take_length, rg_len] at this
    obtain ⟨c1, c2, c3, c4⟩ := this
    exact ⟨by show (1 : Int) ≤ 1 + whole % points; omega, by show 1 + whole % points ≤ points; omega, c4 (by omega), Int.le_trans (Int.ofNat_le.mpr c1) (by omega), c2, c3⟩
/-! ### the family is a family -/
theorem ilo_q {n : Int} {f : List Int} (h : Ris n f) (hl : f.length ≤ 100000) : q_is_list_of f n ∧ m_is_list_of f n = true := by
  refine ⟨fun _ => ⟨⟨⟨by decide, by decide⟩, by omega, by omega⟩, fun i hi => ?_⟩, ?_⟩
  · have := mem_rg.mp hi
    exact ⟨in_nn (by omega) (by omega), in_nn (by omega) (by omega)⟩
  · unfold m_is_list_of
    have h1 : (f.map fun (one_ : Int) => ((m_is_whole one_) && (decide ((0 : Int) ≤ one_) && decide (one_ < n)))).all _root_.id = true := by
      rw [List.all_eq_true]
      intro b hb
      obtain ⟨x, hx, rfl⟩ := List.mem_map.mp hb
      have := h.2 x hx
      simp [m_is_whole, this.1, this.2]
    rw [h1]
    show ((rg (1 : Int) (((f).length : Int) - (1 : Int)).toNat).map fun (at_ : Int) => (decide ((getL f (at_ - (1 : Int))) < (getL f at_)))).all _root_.id = true
    rw [List.all_eq_true]
    intro b hb
    obtain ⟨x, hx, rfl⟩ := List.mem_map.mp hb
    have := mem_rg.mp hx
    exact decide_eq_true (ris_step h.1 (by omega) (by omega))
theorem asked_q {P M : Int} {F : Int × List (List Int)} (h : Fam P M F) (hP : P ≤ 8) (hM : M ≤ 16) : q_asked_family F := by
  have h1 := h.n1
  have h2 := h.n2
  have h3 := h.len
  have h4 := List.length_pos_iff.mpr h.ne
  have hl : ∀ f ∈ F.2, q_is_list_of f F.1 ∧ m_is_list_of f F.1 = true := fun f hf => ilo_q (h.ris f hf) (by have := h.lenIn hf; omega)
  have e1 : decide ((1 : Int) ≤ F.1) = true := decide_eq_true h1
  have e2 : decide (F.1 ≤ (8 : Int)) = true := decide_eq_true (by omega)
  have e3 : decide ((1 : Int) ≤ ((F.2).length : Int)) = true := decide_eq_true (by omega)
  have e4 : decide (((F.2).length : Int) ≤ (16 : Int)) = true := decide_eq_true (by omega)
  unfold q_asked_family
  rw [e1, e2, e3, e4]
  have e5 : (F.2.map fun (one_ : (List Int)) => (m_is_list_of one_ F.1)).all _root_.id = true := by
    rw [List.all_eq_true]
    intro b hb
    obtain ⟨x, hx, rfl⟩ := List.mem_map.mp hb
    exact (hl x hx).2
  rw [e5]
  refine ⟨rfl, rfl, fun _ => fun f hf => (hl f hf).1, rfl, ?_⟩
  rw [List.any_eq_false]
  intro b hb
  obtain ⟨p, hp, rfl⟩ := List.mem_map.mp hb
  obtain ⟨a1, a2, a3⟩ := mem_enum hp
  rw [cutL_take a1]
  show ¬ memB p.2 (F.2.take p.1.toNat) = true
  rw [memB_t]
  exact not_earlier h.nd a3
theorem hasArg_of {t : TR} (h : (!decide (t.len = (2 : Int))) = false) : t.HasArg := by
  have h : t.len = 2 := by simpa using h
  intro z
  rw [h] at z
  exact absurd z (by decide)
theorem isNd_of {t : TR} (h : (!decide (t.len = (4 : Int))) = false) : t.IsNd ∧ t.HasArg := by
  have h : t.len = 4 := by simpa using h
  refine ⟨h, fun z => ?_⟩
  rw [h] at z
  exact absurd z (by decide)
theorem or_f {a b : Bool} (h : (a || b) = false) : a = false ∧ b = false := by
  cases a <;> cases b <;> first | exact ⟨rfl, rfl⟩ | cases h

theorem mistakes_of_ok {n : Nat} {S S0 : List (List Int)} {pts : Int} {v : Option V} (h : qM_mistakes_of (n + 1) (S, pts, S0)) : q_mistakes_of n ⟨mM pts, S0, v⟩ S pts ∧ m_mistakes_of ⟨mM pts, S0, v⟩ S pts = mM pts S := by
  obtain ⟨h1, h2, h3, h4, h5, h6⟩ := h
  simp only at h1 h2 h3 h4 h5 h6
  have ep : m_parting S pts = partM S pts := rfl
  have hn : S.Nodup := h2.nodup h5
  have hr : ∀ f ∈ S, Ris pts f := fun f hf => h6 f (h2.mem hf)
  have sub : ∀ p b, qM_mistakes_of n (m_halved S p b, pts, S0) ∨ p ∉ partM S pts := fun p b => by
    by_cases hp : p ∈ partM S pts
    · refine .inl ⟨?_, (half_sub S p b).trans h2, h3, h4, h5, h6⟩
      have := part_lt hp b
      show (halfM S p b).length < n
      omega
    · exact .inr hp
  have efold : ∀ xs : List Int, xs.foldl (m_mistakes_of_l1 S pts) [] = xs.map fun p => (max (max (mM pts (m_halved S p false)) (mM pts (m_halved S p true))) ((1 : Int) + (min (mM pts (m_halved S p false)) (mM pts (m_halved S p true))))) := fun xs => (foldl_snoc _ xs []).trans (List.nil_append _)
  refine ⟨fun hc => ?_, ?_⟩
  · have h2' : 2 ≤ S.length := by
      have := of_decide_eq_false hc
      omega
    have hne := part_ne hn hr h2'
    have hfin : (m_parting S pts).foldl (m_mistakes_of_l1 S pts) [] = (partM S pts).map fun p => (max (max (mM pts (m_halved S p false)) (mM pts (m_halved S p true))) ((1 : Int) + (min (mM pts (m_halved S p false)) (mM pts (m_halved S p true))))) := by rw [ep]; exact efold _
    refine ⟨⟨⟨by omega, by omega⟩, fun i s p hx hs => ?_⟩, ?_, ?_, h2⟩
    · have hp : p ∈ partM S pts := mem_of_get hx
      have a := (sub p false).resolve_right (fun z => z hp)
      have b := (sub p true).resolve_right (fun z => z hp)
      have hl : s.length < 1000000 := by
        rw [efold] at hs
        subst hs
        have hi := lt_of_get hx
        have hle : (m_parting S pts).length ≤ (rg 0 pts.toNat).length := List.length_filter_le ..
        rw [rg_len] at hle
        rw [List.length_map, List.length_take]
        omega
      exact ⟨⟨a, rfl⟩, ⟨b, rfl⟩, hl⟩
    · rw [hfin]
      intro z
      exact hne (List.map_eq_nil_iff.mp z)
    · rw [hfin]
      show _ = mM pts S
      rw [mM_eq, if_neg (by omega)]
      rfl
  · unfold m_mistakes_of
    by_cases hc : (S.length : Int) < 2
    · rw [decide_eq_true hc, mM_eq, if_pos (by omega)]
      rfl
    · rw [decide_eq_false hc]
      rfl
theorem ok_mistakes_of [CA] {t : Tx} (D : DefAt t "mistakes_of" s_mistakes_of) (hb : Bl t) (G_key_of : FnAt t "key_of" 1 ["sets"] sp_key_of) (G_parting : FnAt t "parting" 2 ["sets", "points"] sp_parting) (G_halved : FnAt t "halved" 1 ["sets", "point", "there"] sp_halved) :
    ∀ n : Nat, FnAt t "mistakes_of" (n + 2) ["sets", "points", "known"] (sp_mistakes_of t.P t.w n)
  | 0 => fn_defM (k := 1) D sc_mistakes_of (fun _ _ _ _ _ _ us hl => match us, hl with | [_, _, _], _ => rfl) (fun _ => rfl) fun X b i v0 cf at_ hR => absurd i.2.1 (Nat.not_lt_zero _)
  | n + 1 => fn_defM (k := n + 2) D sc_mistakes_of (fun _ _ _ _ _ _ us hl => match us, hl with | [_, _, _], _ => rfl) (fun _ => rfl) fun X b i v0 cf at_ hR => by
    obtain ⟨h1, h2⟩ := mistakes_of_ok (v := some v0) i.2
    have h3 := b_mistakes_of (mo := ⟨mM i.1.2.1, i.1.2.2, some v0⟩) cf at_ hb hR G_key_of G_parting (ok_mistakes_of D hb G_key_of G_parting G_halved n) G_halved i.1.1 i.1.2.1 h1
    rw [h2] at h3
    exact h3
theorem law_least_ok {n : Nat} {S : List (List Int)} {pts : Int} (h : qR_law_least (n + 1) (S, pts)) : q_law_least n S pts ∧ m_law_least S pts = mM pts S := by
  obtain ⟨h1, h2, h3, h4⟩ := h
  simp only at h1 h2 h3 h4
  refine ⟨fun hc => ⟨⟨by omega, by omega⟩, fun i s p hx hs => fun hh => ?_⟩, ?_⟩
  · obtain ⟨a1, a2⟩ : halfM S p false ≠ [] ∧ halfM S p true ≠ [] := by
      have hh : ((!decide (halfM S p false = [])) && (!decide (halfM S p true = []))) = true := hh
      simpa using hh
    have b1 := List.length_pos_iff.mpr a1
    have b2 := List.length_pos_iff.mpr a2
    have hs := half_sum S p
    have sub : ∀ b, (halfM S p b).length < n → qR_law_least n (halfM S p b, pts) := fun b hl => ⟨hl, h2, (half_sub S p b).nodup h3, fun f hf => h4 f (half_mem.mp hf).1⟩
    exact ⟨⟨sub false (by omega), sub true (by omega)⟩, by rw [sortD_len]; rfl⟩
  · unfold m_law_least
    by_cases hc : (S.length : Int) < 2
    · rw [decide_eq_true hc, m_small (by omega)]
      rfl
    · rw [decide_eq_false hc]
      refine Eq.trans (foldl_congr (g := stepM pts S) fun s p _ => ?_) (foldM ⟨h3, h4⟩ (by omega))
      unfold m_law_least_l1 m_law_least_1 stepM mVal
      rw [(sort2 _ _).1, (sort2 _ _).2]
      show cond ((!decide (halfM S p false = [])) && (!decide (halfM S p true = []))) (max (max s (max (mM pts (halfM S p false)) (mM pts (halfM S p true)))) (min (mM pts (halfM S p false)) (mM pts (halfM S p true)) + 1)) s = _
      congr 1
      omega
theorem ok_law_least [CA] {t : Tx} (D : DefAt t "_law_least" s_law_least) (hb : Bl t) (G_law_half : FnAt t "_law_half" 1 ["_law_sets", "_law_point", "_law_there"] sp_law_half) :
    ∀ n : Nat, FnAt t "_law_least" (n + 1) ps_law_least (sp_law_least n)
  | 0 => fn_def (k := 0) D sc_law_least (fun _ _ _ _ _ _ us hl => match us, hl with | [_, _], _ => rfl) (fun _ => rfl) fun X b i cf at_ hR => absurd i.2.1 (Nat.not_lt_zero _)
  | n + 1 => fn_def (k := n + 1) D sc_law_least (fun _ _ _ _ _ _ us hl => match us, hl with | [_, _], _ => rfl) (fun _ => rfl) fun X b i cf at_ hR => by
    obtain ⟨h1, h2⟩ := law_least_ok i.2
    have h3 := b_law_least cf at_ hb hR G_law_half (ok_law_least D hb G_law_half n) i.1.1 i.1.2 h1
    rw [h2] at h3
    exact h3
theorem point_q {F : Int × List (List Int)} {p : Int} (hp : 0 ≤ p ∧ p < F.1) : q_asked_point F p := by
  show ((!true) || (!(decide ((0 : Int) ≤ p) && decide (p < F.1)))) = false
  rw [decide_eq_true hp.1, decide_eq_true hp.2]
  rfl
theorem init_q {P M : Int} {F : Int × List (List Int)} (h : Fam P M F) (hP : P ≤ 8) (hM : M ≤ 16) : q_Foreteller___init__ F := by
  have h3 := h.len
  refine ⟨asked_q h hP hM, ?_⟩
  rw [List.map_id']
  omega
theorem half_qm {s : Fo} (h : FoOk s) (p : Int) (b : Bool) : qM_mistakes_of 17 (halfM s.sets p b, s.pts, s.base) := by
  have h1 := h.p1
  have h2 := h.p8
  have h3 := h.l
  have hs : (halfM s.sets p b).Sublist s.base := (half_sub _ _ _).trans h.sub
  have := hs.length_le
  exact ⟨(by show (halfM s.sets p b).length < 17; omega), hs, h3, ⟨(by show (0 : Int) ≤ s.pts; omega), (by show s.pts ≤ 1000; omega)⟩, h.v.nd, h.v.ris⟩
theorem guess_q {s : Fo} (h : FoOk s) {p : Int} (hp : 0 ≤ p ∧ p < s.pts) : q_Foreteller_guess s s p := ⟨point_q hp, half_qm h p true, half_qm h p false, rfl⟩
theorem guess_e (s : Fo) (p : Int) : m_Foreteller_guess s p = guessM s p := rfl
theorem po_e (s : Fo) (p : Int) (b : Bool) : po_Foreteller_tell s p b = tellM s p b := rfl
theorem tell_q {s : Fo} (h : FoOk s) {p : Int} {b : Bool} (hp : 0 ≤ p ∧ p < s.pts) (hn : halfM s.sets p b ≠ []) : q_Foreteller_tell (po_Foreteller_tell s p b) s p b := by
  refine ⟨point_q hp, rfl, ?_, guess_q h hp, ?_⟩
  · show decide (halfM s.sets p b = []) = false
    exact decide_eq_false hn
  · show ({ ({ s with sets := halfM s.sets p b } : Fo) with wrong := s.wrong + cond (decide (guessM s p = b)) 0 1 } : Fo) = tellM s p b
    unfold tellM
    cases guessM s p <;> cases b <;> rfl
theorem left_e (s : Fo) : m_Foreteller_sets_left s = s.sets := by
  unfold m_Foreteller_sets_left
  rw [List.map_id']
theorem tell_e (s : Fo) (p : Int) (b : Bool) : m_Foreteller_tell s p b = (guessM s p == b) := by
  show decide (guessM s p = b) = _
  cases guessM s p <;> cases b <;> rfl
theorem tells {F : Int × List (List Int)} {f : List Int} : ∀ (as : List (Int × Bool)), (∀ a ∈ as, 0 ≤ a.1 ∧ a.1 < F.1) → (∀ a ∈ as, memB a.1 f = a.2) → ∀ s, FoIn F s → f ∈ s.sets →
    FoIn F (as.foldl (fun s a => po_Foreteller_tell s a.1 a.2) s) ∧ f ∈ (as.foldl (fun s a => po_Foreteller_tell s a.1 a.2) s).sets
  | [], _, _, s, h, hs => ⟨h, hs⟩
  | a :: as, h1, h2, s, h, hs => by
    have m : f ∈ halfM s.sets a.1 a.2 := half_mem.mpr ⟨hs, h2 a (List.mem_cons_self ..)⟩
    exact tells as (fun b hb => h1 b (List.mem_cons_of_mem _ hb)) (fun b hb => h2 b (List.mem_cons_of_mem _ hb)) _ (tell_in h (h1 a (List.mem_cons_self ..)) (List.ne_nil_of_mem m)) m
/-- the rows that go on: the sets that are left are those that answered so -/
theorem tells_mem {f : List Int} : ∀ (as : List (Int × Bool)) (s : Fo), f ∈ (as.foldl (fun s a => po_Foreteller_tell s a.1 a.2) s).sets → f ∈ s.sets ∧ ∀ a ∈ as, memB a.1 f = a.2
  | [], s, h => ⟨h, fun a ha => by cases ha⟩
  | a :: as, s, h => by
    obtain ⟨h1, h2⟩ := tells_mem as _ h
    have h1 : f ∈ halfM s.sets a.1 a.2 := h1
    obtain ⟨h3, h4⟩ := half_mem.mp h1
    refine ⟨h3, fun b hb => ?_⟩
    rcases List.mem_cons.mp hb with rfl | hb
    · exact h4
    · exact h2 b hb
theorem loop_inv {S α β : Type} {o : S → α → Option β} {step : S → α → S} (I : S → Prop) : ∀ (xs : List α) (s : S), I s → (∀ s x, x ∈ xs → I s → o s x = none ∧ I (step s x)) → loopR o step xs s = (none, xs.foldl step s) ∧ I (xs.foldl step s)
  | [], s, h, _ => ⟨rfl, h⟩
  | x :: xs, s, h, hs => by
    obtain ⟨h1, h2⟩ := hs s x (List.mem_cons_self ..) h
    have ih := loop_inv I xs (step s x) h2 fun s y hy hi => hs s y (List.mem_cons_of_mem _ hy) hi
    refine ⟨?_, ih.2⟩
    have e : loopR o step (x :: xs) s = loopR o step xs (step s x) := by
      show (match o s x with | some v => (some v, _) | none => _) = _
      rw [h1]
    rw [e]
    exact ih.1
theorem po_asked (s : Fo) (p : Int) (b : Bool) : po_law_asked s s.sets p b = cond (decide (halfM s.sets p b = [])) s (tellM s p b) := rfl
theorem asked_step {F : Int × List (List Int)} {s : Fo} (h : FoIn F s) {p : Int} {b : Bool} (hp : 0 ≤ p ∧ p < F.1) :
    q_law_asked (po_law_asked s s.sets p b) s s.sets p b ∧ FoIn F (po_law_asked s s.sets p b) ∧ (m_law_asked s s.sets p b).1 = (po_law_asked s s.sets p b).sets ∧ s.wrong + (m_law_asked s s.sets p b).2 = (po_law_asked s s.sets p b).wrong := by
  have hp' : 0 ≤ p ∧ p < s.pts := by rw [h.hp]; exact hp
  have gq := guess_q h.toFoOk hp'
  unfold q_law_asked q_law_asked_1 q_law_asked_2 q_law_asked_3 m_law_asked m_law_asked_1 m_law_asked_2 m_law_asked_3
  rw [po_asked]
  by_cases hn : halfM s.sets p b = []
  · have hn' : m_law_half s.sets p b = [] := hn
    rw [decide_eq_true hn, decide_eq_true hn']
    refine ⟨⟨gq, fun _ => gq, ?_, ⟨fun _ => ⟨⟨⟨point_q hp', rfl, hn⟩, rfl⟩, rfl⟩, fun z => (by cases z)⟩⟩, h, rfl, ?_⟩
    · rw [decide_eq_true rfl]
      rfl
    · show s.wrong + 0 = s.wrong
      omega
  · have hn' : ¬ m_law_half s.sets p b = [] := hn
    rw [decide_eq_false hn, decide_eq_false hn']
    have e : m_Foreteller_tell s p b = (guessM s p == b) := tell_e s p b
    refine ⟨⟨gq, fun _ => gq, ?_, ⟨fun z => (by cases z), fun _ => ⟨tell_q h.toFoOk hp' hn, ?_, rfl⟩⟩⟩, tell_in h hp hn, rfl, ?_⟩
    · rw [decide_eq_true rfl]
      rfl
    · rw [e]
      show ((!true) || !decide ((guessM s p == b) = decide (guessM s p = b))) = false
      cases guessM s p <;> cases b <;> rfl
    · show s.wrong + (if (!m_Foreteller_tell s p b) = true then (1 : Int) else 0) = s.wrong + cond (guessM s p == b) 0 1
      rw [e]
      cases (guessM s p == b) <;> rfl
theorem told_ok {F : Int × List (List Int)} {s : Fo} (hF : Fam 5 8 F) (h : FoIn F s) : q_law_told s s s.sets s.wrong ∧ m_law_told s s.sets s.wrong = true := by
  unfold q_law_told m_law_told q_law_told_1 m_law_told_1
  rw [left_e, show m_Foreteller_mistakes_made s = s.wrong from rfl, decide_eq_true rfl, decide_eq_true rfl]
  have h1 := h.sub.length_le
  have h2 := h.l
  refine ⟨⟨fun z => (by cases z), fun _ => ⟨⟨by omega, fun y hy => ?_⟩, rfl⟩⟩, rfl⟩
  have hm := h.sub.subset hy
  rw [h.hb] at hm
  have := hF.lenIn hm
  have := hF.n2
  omega
structure In (F : Int × List (List Int)) (x : Fo × List (List Int) × Int) : Prop where
  fo : FoIn F x.1
  es : x.2.1 = x.1.sets
  ew : x.2.2 = x.1.wrong
theorem step_ok {F : Int × List (List Int)} {ns : List Int} {ag : Bool} (hF : Fam 5 8 F) (hl : ns.length ≤ 63) {s : Fo × List (List Int) × Int} (h : In F s) {x : Int × Int} (hx : (0 ≤ x.1 ∧ x.1 < 900) ∧ Bd x.2 1048576) :
    q_law_right_l1 F ns ag (mM F.1 F.2) s x ∧ m_law_right_l1o F ns ag (mM F.1 F.2) s x = none ∧ In F (m_law_right_l1 F ns ag s x) := by
  obtain ⟨s, S, w⟩ := s
  obtain ⟨h1, h2', h3'⟩ := h
  have h1 : FoIn F s := h1
  obtain rfl : S = s.sets := h2'
  obtain rfl : w = s.wrong := h3'
  unfold q_law_right_l1 m_law_right_l1o m_law_right_l1
  generalize m_law_number x.2 (x.1 + 4) (ns.length : Int) = num
  unfold q_law_right_2 m_law_right_2o m_law_right_2
  have hn := hF.n1
  have hp : 0 ≤ num % F.1 ∧ num % F.1 < F.1 := ⟨Int.emod_nonneg _ (by omega), Int.emod_lt_of_pos _ (by omega)⟩
  show (_ ∧ 0 < F.1 ∧ q_law_right_3 ag s s.sets s.wrong (mM F.1 F.2) (num % F.1) _) ∧ m_law_right_3o ag s s.sets s.wrong (mM F.1 F.2) (num % F.1) _ = none ∧ In F (m_law_right_3 ag s s.sets s.wrong (num % F.1) _)
  generalize num % F.1 = p at hp
  generalize decide (num / 8 % 2 = 0) = b0
  unfold q_law_right_3 m_law_right_3o m_law_right_3
  have hp' : 0 ≤ p ∧ p < s.pts := by rw [h1.hp]; exact hp
  generalize cond ag (!m_Foreteller_guess s p) b0 = b
  obtain ⟨a1, a2, a3, a4⟩ := asked_step h1 (b := b) hp
  obtain ⟨t1, t2⟩ := told_ok hF a2
  unfold q_law_right_4 m_law_right_4o m_law_right_4
  rw [a3, a4, t2]
  have hw : (po_law_asked s s.sets p b).wrong ≤ mM F.1 F.2 := a2.wle
  rw [decide_eq_false (by omega : ¬ (po_law_asked s s.sets p b).wrong > mM F.1 F.2)]
  exact ⟨⟨number_q hx.2 (by omega), by omega, fun _ => guess_q h1.toFoOk hp', a1, fun _ _ => t1⟩, rfl, a2, rfl, rfl⟩
theorem right_ok {F : Int × List (List Int)} {ns : List Int} {ag : Bool} (hF : Fam 5 8 F) (hl : ns.length ≤ 63) (hb : ∀ z ∈ ns, Builtin.Int.intBits z ≤ 1048576) : q_law_right F ns ag ∧ m_law_right F ns ag = true := by
  have hcp : m_law_copied F = F := by
    unfold m_law_copied
    rw [List.map_id']
  unfold q_law_right m_law_right
  rw [hcp]
  unfold q_law_right_1 m_law_right_1
  have hcut : cutL ns none (some (12 : Int)) = ns.take 12 := by rw [cutL_take (by decide)]; rfl
  rw [hcut]
  generalize hxs : ns.take 12 ++ ([1, 6, 4] : List Int) = xs
  have hlx : xs.length ≤ 15 := by
    rw [← hxs, List.length_append, List.length_take]
    show _ + 3 ≤ 15
    omega
  have hbx : ∀ z ∈ xs, Bd z 1048576 := fun z hz => by
    rw [← hxs] at hz
    rcases List.mem_append.mp hz with hz | hz
    · exact Bd.bits (hb z (List.mem_of_mem_take hz))
    · have : z = 1 ∨ z = 6 ∨ z = 4 := by simpa using hz
      rcases this with rfl | rfl | rfl
      · exact (Bd.lit (k := 3) (by decide)).up (by decide)
      · exact (Bd.lit (k := 3) (by decide)).up (by decide)
      · exact (Bd.lit (k := 3) (by decide)).up (by decide)
  have hx : ∀ x, x ∈ enumL xs → (0 ≤ x.1 ∧ x.1 < 900) ∧ Bd x.2 1048576 := fun x hx => by
    obtain ⟨e1, e2, e3⟩ := mem_enum hx
    exact ⟨⟨e1, by omega⟩, hbx _ (List.mem_of_getElem? e3)⟩
  have i0 : In F (fo0 F, F.2, 0) := ⟨fo0_in hF (by decide) (by decide), by rw [fo0_eq], by rw [fo0_eq]⟩
  have run : ∀ ys : List (Int × Int), (∀ y ∈ ys, y ∈ enumL xs) → loopR (m_law_right_l1o F ns ag (mM F.1 F.2)) (m_law_right_l1 F ns ag) ys (fo0 F, F.2, 0) = (none, ys.foldl (m_law_right_l1 F ns ag) (fo0 F, F.2, 0)) ∧ In F (ys.foldl (m_law_right_l1 F ns ag) (fo0 F, F.2, 0)) := fun ys hy =>
    loop_inv (In F) ys _ i0 fun s y hys hi => (step_ok hF hl hi (hx y (hy y hys))).2
  rw [(run _ fun _ h => h).1]
  have h1 := hF.n1
  have h2 := hF.n2
  have h3 := hF.len
  obtain ⟨f0, r, hr⟩ := List.exists_cons_of_ne_nil hF.ne
  have hlen : (0 : Int) < F.2.length := by rw [hr]; simp only [List.length_cons]; omega
  have hg : getL F.2 (0 : Int) = f0 := by
    rw [getL_nn (Int.le_refl 0) hlen]
    simp only [hr]
    rfl
  have hf0 := hF.lenIn (f := f0) (by rw [hr]; exact List.mem_cons_self ..)
  rw [hg]
  refine ⟨⟨init_q hF (by decide) (by decide), ⟨⟨in_nn (Int.le_refl 0) hlen, by omega, by omega, by omega⟩, ⟨(by show F.2.length < 17; omega), ⟨(by show 0 ≤ F.1; omega), (by show F.1 ≤ 1000; omega)⟩, hF.nd, hF.ris⟩, ?_, fun i s x hix hi => ?_⟩⟩, rfl⟩
  · have e : (ns.take 12).length + ([1, 6, 4] : List Int).length = xs.length := by rw [← hxs, List.length_append]
    show (ns.take 12).length + ([1, 6, 4] : List Int).length ≤ 1000000
    omega
  · have hi2 := run ((enumL xs).take i) (fun y hy => List.mem_of_mem_take hy)
    rw [hi2.1] at hi
    cases hi
    exact (step_ok hF hl hi2.2 (hx x (List.mem_of_getElem? hix))).1
theorem law_ok : LawOk q_law m_law := by
  intro ns hl hb
  have l1 : ∀ b0, 0 ≤ b0 ∧ b0 < 100 → ∀ u, q_law_l1 ns u b0 ∧ m_law_l1o ns u b0 = none := fun b0 h u => by
    obtain ⟨f1, f2⟩ := fam_ok hl hb (by0 := b0) (points := 5) (most := 8) h (by decide) (by decide)
    unfold q_law_l1 m_law_l1o
    generalize hF : m_law_family ns b0 5 8 = F at f2
    unfold q_law_1 m_law_1o
    rw [(right_ok (ag := false) f2 hl hb).2, (right_ok (ag := true) f2 hl hb).2]
    exact ⟨⟨f1, (right_ok f2 hl hb).1, fun _ => (right_ok f2 hl hb).1⟩, rfl⟩
  have hby : ∀ b0, b0 ∈ ([0, 2] : List Int) → 0 ≤ b0 ∧ b0 < 100 := by decide
  have fe : Fam 8 16 ((1 : Int), ([([(0 : Int)] : (List Int))] : (List (List Int)))) := ⟨by decide, by decide, by decide, by decide, by decide, fun f hf => by
    simp at hf
    subst hf
    exact ⟨by decide, by decide⟩⟩
  have i0 := fo0_in fe (by decide) (by decide)
  unfold q_law m_law
  rw [loop_none fun s x hx => (l1 x (hby x hx) s).2]
  have e : fo0 ((1 : Int), ([([(0 : Int)] : (List Int))] : (List (List Int)))) = ⟨1, [[0]], 0, [[0]]⟩ := fo0_eq _
  have hg : guessM ⟨1, [[0]], 0, [[0]]⟩ 0 = true := by
    have a1 : mM 1 [[(0 : Int)]] = 0 := by rw [m_small (by decide)]; rfl
    show decide (mM 1 (halfM [[0]] 0 true) > mM 1 (halfM [[0]] 0 false)) = true
    rw [show halfM [[(0 : Int)]] 0 true = [[0]] from by decide +kernel, show halfM [[(0 : Int)]] 0 false = [] from by decide +kernel, a1, m_nil]
    decide
  rw [e] at i0 ⊢
  have gq := guess_q i0.toFoOk (p := 0) (by show (0 : Int) ≤ 0 ∧ (0 : Int) < 1; decide)
  have tq := tell_q i0.toFoOk (p := 0) (b := true) (by show (0 : Int) ≤ 0 ∧ (0 : Int) < 1; decide) (by decide +kernel)
  refine ⟨⟨fun i s x hx _ => (l1 x (hby x (mem_of_get hx)) s).1, fun s _ _ => ⟨init_q fe (by decide) (by decide), gq, fun _ => ⟨⟨point_q (by show (0 : Int) ≤ 0 ∧ (0 : Int) < 1; decide), rfl, by decide +kernel⟩, fun _ => tq⟩⟩⟩, ?_⟩
  show m_law_2 ⟨1, [[0]], 0, [[0]]⟩ = true
  unfold m_law_2
  rw [guess_e, tell_e, hg]
  rfl
end G

namespace G
open PySem PySem.Spec PyProof.Rows L2 Zk
theorem all_mk {l : PySem.W.OpenLaw} {w : World} {K : PySem.W.Frag} {h : Heap} {mg : Str → Option Value} {fa f0 f1 f2 f3 f4 f5 f6 f7 f8 f9 f10 f11 f12 f13 f14 f15 f16 f17 f18 f19 f20 f21 f22 f23 : Addr} {CForeteller CNS CLE CBadAnswer CBadFamily CBadPoint : Addr} {od0 an0 od1 an1 od2 an2 od3 an3 od4 an4 od5 an5 od6 an6 od7 an7 od8 an8 od9 an9 od10 an10 od11 an11 od12 an12 od13 an13 od14 an14 od15 an15 od16 an16 od17 an17 od18 an18 od19 an19 od20 an20 od21 an21 od22 an22 od23 an23 : Option Addr} {sl0 sl1 sl2 sl3 sl4 sl5 sl6 sl7 sl8 sl9 sl10 sl11 sl12 sl13 sl14 sl15 sl16 sl17 sl18 sl19 sl20 sl21 sl22 sl23 : Array (Option Value)} {oc0 kV0 dc0 pm0 cd0 ct0 oc1 kV1 dc1 pm1 cd1 ct1 oc2 kV2 dc2 pm2 cd2 ct2 oc3 kV3 dc3 pm3 cd3 ct3 oc4 kV4 dc4 pm4 cd4 ct4 oc5 kV5 dc5 pm5 cd5 ct5 oc6 kV6 dc6 pm6 cd6 ct6 oc7 kV7 dc7 pm7 cd7 ct7 oc8 kV8 dc8 pm8 cd8 ct8 oc9 kV9 dc9 pm9 cd9 ct9 oc10 kV10 dc10 pm10 cd10 ct10 oc11 kV11 dc11 pm11 cd11 ct11 oc12 kV12 dc12 pm12 cd12 ct12 oc13 kV13 dc13 pm13 cd13 ct13 oc14 kV14 dc14 pm14 cd14 ct14 oc15 kV15 dc15 pm15 cd15 ct15 oc16 kV16 dc16 pm16 cd16 ct16 oc17 kV17 dc17 pm17 cd17 ct17 oc18 kV18 dc18 pm18 cd18 ct18 oc19 kV19 dc19 pm19 cd19 ct19 oc20 kV20 dc20 pm20 cd20 ct20 oc21 kV21 dc21 pm21 cd21 ct21 oc22 kV22 dc22 pm22 cd22 ct22 oc23 kV23 dc23 pm23 cd23 ct23 : Value} {tk0 tk1 : Tok} (X : K.In h) (G : h.Ns mainGlobals mg) (hfa : mg "law" = some (.ref fa))
    (aCF : PySem.W.nsIn K mainGlobals "Foreteller" = some (some (.ref CForeteller)))
    (pgF : PySem.W.plainGet K CForeteller Str.empty = true)
    (hdF : PySem.W.hasDictIn K CForeteller = true)
    (poF : PySem.W.plainOver K CForeteller = true)
    (saF : PySem.W.findIn K (.ref CForeteller) "__setattr__" = some (some (.builtin "object.__setattr__")))
    (mkF : PySem.W.makesIn K CForeteller = true)
    (kcF : PySem.W.keepIn K (.ref CForeteller) = true)
    (nFp : PySem.W.findIn K (.ref CForeteller) "points" = some none)
    (nFs : PySem.W.findIn K (.ref CForeteller) "sets" = some none)
    (nFw : PySem.W.findIn K (.ref CForeteller) "wrong" = some none)
    (nFk : PySem.W.findIn K (.ref CForeteller) "known" = some none)
    (aNS : PySem.W.nsIn K mainGlobals "NoSet" = some (some (.ref CNS)))
    (kNS : PySem.W.keepIn K (.ref CNS) = true)
    (eNS : PySem.W.excIn K CNS [.type "ValueError", .type "Exception", .type "BaseException", .type "object"] "ValueError.__new__" = true)
    (bNS : PySem.W.subIn K (.ref CNS) (.type "BaseException") = some true)
    (tNS : PySem.W.typeIn K (.ref CNS) = some (.type "type"))
    (gNS : PySem.W.findIn K (.ref CNS) "__getattribute__" = some (some (.builtin "BaseException.__getattribute__")))
    (qNS : PySem.W.findIn K (.ref CNS) "__getattr__" = some none)
    (hNS : PySem.W.hasDictIn K CNS = true)
    (uNS : PySem.W.findIn K (.ref CNS) "__class__" = some (some (.builtin "object.__class__")))
    (xsn : PySem.W.specialIn K (.builtin "object.__class__") "__get__" = some (some (.builtin "getset_descriptor.__get__")))
    (xst : PySem.W.takesIn K (.builtin "object.__class__") = some true)
    (mNS : PySem.W.mroIn K CNS (.type "object") = some true)
    (aLE : PySem.W.nsIn K mainGlobals "LessonError" = some (some (.ref CLE)))
    (bLE : PySem.W.subIn K (.ref CLE) (.type "BaseException") = some true)
    (hLE : PySem.W.hasDictIn K CLE = true)
    (tLE : PySem.W.typeIn K (.ref CLE) = some (.type "type"))
    (sLE : PySem.W.subIn K (.ref CNS) (.ref CLE) = some true)
    (sNS : PySem.W.subIn K (.ref CNS) (.ref CNS) = some true)
    (iNS : PySem.W.isClsIn K CNS = true)
    (aBadAnswer : PySem.W.nsIn K mainGlobals "BadAnswer" = some (some (.ref CBadAnswer)))
    (iBadAnswer : PySem.W.isClsIn K CBadAnswer = true)
    (tBadAnswer : PySem.W.typeIn K (.ref CBadAnswer) = some (.type "type"))
    (sBadAnswer : PySem.W.subIn K (.ref CNS) (.ref CBadAnswer) = some false)
    (aBadFamily : PySem.W.nsIn K mainGlobals "BadFamily" = some (some (.ref CBadFamily)))
    (iBadFamily : PySem.W.isClsIn K CBadFamily = true)
    (tBadFamily : PySem.W.typeIn K (.ref CBadFamily) = some (.type "type"))
    (sBadFamily : PySem.W.subIn K (.ref CNS) (.ref CBadFamily) = some false)
    (aBadPoint : PySem.W.nsIn K mainGlobals "BadPoint" = some (some (.ref CBadPoint)))
    (iBadPoint : PySem.W.isClsIn K CBadPoint = true)
    (tBadPoint : PySem.W.typeIn K (.ref CBadPoint) = some (.type "type"))
    (sBadPoint : PySem.W.subIn K (.ref CNS) (.ref CBadPoint) = some false)
    (a0 : PySem.W.nsIn K mainGlobals "is_whole" = some (some (.ref f0)))
    (l0 : K.lookup f0 = some ⟨oc0, od0, .func (PySem.W.fnOf "is_whole" "is_whole" (defArgs s_is_whole) (defBody s_is_whole) (defScope s_is_whole) .none kV0 dc0 pm0 an0 cd0 ct0), sl0⟩)
    (c0 : PySem.W.codeIn K cd0 "is_whole" = true)
    (k0 : PySem.W.keepIn K (.ref f0) = true)
    (a1 : PySem.W.nsIn K mainGlobals "is_list_of" = some (some (.ref f1)))
    (l1 : K.lookup f1 = some ⟨oc1, od1, .func (PySem.W.fnOf "is_list_of" "is_list_of" (defArgs s_is_list_of) (defBody s_is_list_of) (defScope s_is_list_of) .none kV1 dc1 pm1 an1 cd1 ct1), sl1⟩)
    (c1 : PySem.W.codeIn K cd1 "is_list_of" = true)
    (k1 : PySem.W.keepIn K (.ref f1) = true)
    (a2 : PySem.W.nsIn K mainGlobals "asked_family" = some (some (.ref f2)))
    (l2 : K.lookup f2 = some ⟨oc2, od2, .func (PySem.W.fnOf "asked_family" "asked_family" (defArgs s_asked_family) (defBody s_asked_family) (defScope s_asked_family) .none kV2 dc2 pm2 an2 cd2 ct2), sl2⟩)
    (c2 : PySem.W.codeIn K cd2 "asked_family" = true)
    (k2 : PySem.W.keepIn K (.ref f2) = true)
    (a3 : PySem.W.nsIn K mainGlobals "asked_point" = some (some (.ref f3)))
    (l3 : K.lookup f3 = some ⟨oc3, od3, .func (PySem.W.fnOf "asked_point" "asked_point" (defArgs s_asked_point) (defBody s_asked_point) (defScope s_asked_point) .none kV3 dc3 pm3 an3 cd3 ct3), sl3⟩)
    (c3 : PySem.W.codeIn K cd3 "asked_point" = true)
    (k3 : PySem.W.keepIn K (.ref f3) = true)
    (a4 : PySem.W.nsIn K mainGlobals "asked_answer" = some (some (.ref f4)))
    (l4 : K.lookup f4 = some ⟨oc4, od4, .func (PySem.W.fnOf "asked_answer" "asked_answer" (defArgs s_asked_answer) (defBody s_asked_answer) (defScope s_asked_answer) .none kV4 dc4 pm4 an4 cd4 ct4), sl4⟩)
    (c4 : PySem.W.codeIn K cd4 "asked_answer" = true)
    (k4 : PySem.W.keepIn K (.ref f4) = true)
    (a5 : PySem.W.nsIn K mainGlobals "halved" = some (some (.ref f5)))
    (l5 : K.lookup f5 = some ⟨oc5, od5, .func (PySem.W.fnOf "halved" "halved" (defArgs s_halved) (defBody s_halved) (defScope s_halved) .none kV5 dc5 pm5 an5 cd5 ct5), sl5⟩)
    (c5 : PySem.W.codeIn K cd5 "halved" = true)
    (k5 : PySem.W.keepIn K (.ref f5) = true)
    (a6 : PySem.W.nsIn K mainGlobals "key_of" = some (some (.ref f6)))
    (l6 : K.lookup f6 = some ⟨oc6, od6, .func (PySem.W.fnOf "key_of" "key_of" (defArgs s_key_of) (defBody s_key_of) (defScope s_key_of) .none kV6 dc6 pm6 an6 cd6 ct6), sl6⟩)
    (c6 : PySem.W.codeIn K cd6 "key_of" = true)
    (k6 : PySem.W.keepIn K (.ref f6) = true)
    (a7 : PySem.W.nsIn K mainGlobals "parting" = some (some (.ref f7)))
    (l7 : K.lookup f7 = some ⟨oc7, od7, .func (PySem.W.fnOf "parting" "parting" (defArgs s_parting) (defBody s_parting) (defScope s_parting) .none kV7 dc7 pm7 an7 cd7 ct7), sl7⟩)
    (c7 : PySem.W.codeIn K cd7 "parting" = true)
    (k7 : PySem.W.keepIn K (.ref f7) = true)
    (a8 : PySem.W.nsIn K mainGlobals "mistakes_of" = some (some (.ref f8)))
    (l8 : K.lookup f8 = some ⟨oc8, od8, .func (PySem.W.fnOf "mistakes_of" "mistakes_of" (defArgs s_mistakes_of) (defBody s_mistakes_of) (defScope s_mistakes_of) .none kV8 dc8 pm8 an8 cd8 ct8), sl8⟩)
    (c8 : PySem.W.codeIn K cd8 "mistakes_of" = true)
    (k8 : PySem.W.keepIn K (.ref f8) = true)
    (a9 : PySem.W.findIn K (.ref CForeteller) "__init__" = some (some (.ref f9)))
    (i9 : PySem.W.isFn K (.ref f9) = true)
    (l9 : K.lookup f9 = some ⟨oc9, od9, .func (PySem.W.fnOf "__init__" "Foreteller.__init__" (defArgs s_Foreteller___init__) (defBody s_Foreteller___init__) (defScope s_Foreteller___init__) .none kV9 dc9 pm9 an9 cd9 ct9), sl9⟩)
    (c9 : PySem.W.codeIn K cd9 "Foreteller.__init__" = true)
    (k9 : PySem.W.keepIn K (.ref f9) = true)
    (a10 : PySem.W.findIn K (.ref CForeteller) "guess" = some (some (.ref f10)))
    (i10 : PySem.W.isFn K (.ref f10) = true)
    (l10 : K.lookup f10 = some ⟨oc10, od10, .func (PySem.W.fnOf "guess" "Foreteller.guess" (defArgs s_Foreteller_guess) (defBody s_Foreteller_guess) (defScope s_Foreteller_guess) .none kV10 dc10 pm10 an10 cd10 ct10), sl10⟩)
    (c10 : PySem.W.codeIn K cd10 "Foreteller.guess" = true)
    (k10 : PySem.W.keepIn K (.ref f10) = true)
    (a11 : PySem.W.findIn K (.ref CForeteller) "tell" = some (some (.ref f11)))
    (i11 : PySem.W.isFn K (.ref f11) = true)
    (l11 : K.lookup f11 = some ⟨oc11, od11, .func (PySem.W.fnOf "tell" "Foreteller.tell" (defArgs s_Foreteller_tell) (defBody s_Foreteller_tell) (defScope s_Foreteller_tell) .none kV11 dc11 pm11 an11 cd11 ct11), sl11⟩)
    (c11 : PySem.W.codeIn K cd11 "Foreteller.tell" = true)
    (k11 : PySem.W.keepIn K (.ref f11) = true)
    (a12 : PySem.W.findIn K (.ref CForeteller) "mistakes_made" = some (some (.ref f12)))
    (i12 : PySem.W.isFn K (.ref f12) = true)
    (l12 : K.lookup f12 = some ⟨oc12, od12, .func (PySem.W.fnOf "mistakes_made" "Foreteller.mistakes_made" (defArgs s_Foreteller_mistakes_made) (defBody s_Foreteller_mistakes_made) (defScope s_Foreteller_mistakes_made) .none kV12 dc12 pm12 an12 cd12 ct12), sl12⟩)
    (c12 : PySem.W.codeIn K cd12 "Foreteller.mistakes_made" = true)
    (k12 : PySem.W.keepIn K (.ref f12) = true)
    (a13 : PySem.W.findIn K (.ref CForeteller) "sets_left" = some (some (.ref f13)))
    (i13 : PySem.W.isFn K (.ref f13) = true)
    (l13 : K.lookup f13 = some ⟨oc13, od13, .func (PySem.W.fnOf "sets_left" "Foreteller.sets_left" (defArgs s_Foreteller_sets_left) (defBody s_Foreteller_sets_left) (defScope s_Foreteller_sets_left) .none kV13 dc13 pm13 an13 cd13 ct13), sl13⟩)
    (c13 : PySem.W.codeIn K cd13 "Foreteller.sets_left" = true)
    (k13 : PySem.W.keepIn K (.ref f13) = true)
    (a14 : PySem.W.nsIn K mainGlobals "_law_number" = some (some (.ref f14)))
    (l14 : K.lookup f14 = some ⟨oc14, od14, .func (PySem.W.fnOf "_law_number" "_law_number" (defArgs s_law_number) (defBody s_law_number) (defScope s_law_number) .none kV14 dc14 pm14 an14 cd14 ct14), sl14⟩)
    (c14 : PySem.W.codeIn K cd14 "_law_number" = true)
    (k14 : PySem.W.keepIn K (.ref f14) = true)
    (a15 : PySem.W.nsIn K mainGlobals "_law_family" = some (some (.ref f15)))
    (l15 : K.lookup f15 = some ⟨oc15, od15, .func (PySem.W.fnOf "_law_family" "_law_family" (defArgs s_law_family) (defBody s_law_family) (defScope s_law_family) .none kV15 dc15 pm15 an15 cd15 ct15), sl15⟩)
    (c15 : PySem.W.codeIn K cd15 "_law_family" = true)
    (k15 : PySem.W.keepIn K (.ref f15) = true)
    (a16 : PySem.W.nsIn K mainGlobals "_law_copied" = some (some (.ref f16)))
    (l16 : K.lookup f16 = some ⟨oc16, od16, .func (PySem.W.fnOf "_law_copied" "_law_copied" (defArgs s_law_copied) (defBody s_law_copied) (defScope s_law_copied) .none kV16 dc16 pm16 an16 cd16 ct16), sl16⟩)
    (c16 : PySem.W.codeIn K cd16 "_law_copied" = true)
    (k16 : PySem.W.keepIn K (.ref f16) = true)
    (a17 : PySem.W.nsIn K mainGlobals "_law_half" = some (some (.ref f17)))
    (l17 : K.lookup f17 = some ⟨oc17, od17, .func (PySem.W.fnOf "_law_half" "_law_half" (defArgs s_law_half) (defBody s_law_half) (defScope s_law_half) .none kV17 dc17 pm17 an17 cd17 ct17), sl17⟩)
    (c17 : PySem.W.codeIn K cd17 "_law_half" = true)
    (k17 : PySem.W.keepIn K (.ref f17) = true)
    (a18 : PySem.W.nsIn K mainGlobals "_law_least" = some (some (.ref f18)))
    (l18 : K.lookup f18 = some ⟨oc18, od18, .func (PySem.W.fnOf "_law_least" "_law_least" (defArgs s_law_least) (defBody s_law_least) (defScope s_law_least) .none kV18 dc18 pm18 an18 cd18 ct18), sl18⟩)
    (c18 : PySem.W.codeIn K cd18 "_law_least" = true)
    (k18 : PySem.W.keepIn K (.ref f18) = true)
    (a19 : PySem.W.nsIn K mainGlobals "_law_none" = some (some (.ref f19)))
    (l19 : K.lookup f19 = some ⟨oc19, od19, .func (PySem.W.fnOf "_law_none" "_law_none" (defArgs s_law_none) (defBody s_law_none) (defScope s_law_none) .none kV19 dc19 pm19 an19 cd19 ct19), sl19⟩)
    (c19 : PySem.W.codeIn K cd19 "_law_none" = true)
    (k19 : PySem.W.keepIn K (.ref f19) = true)
    (a20 : PySem.W.nsIn K mainGlobals "_law_told" = some (some (.ref f20)))
    (l20 : K.lookup f20 = some ⟨oc20, od20, .func (PySem.W.fnOf "_law_told" "_law_told" (defArgs s_law_told) (defBody s_law_told) (defScope s_law_told) .none kV20 dc20 pm20 an20 cd20 ct20), sl20⟩)
    (c20 : PySem.W.codeIn K cd20 "_law_told" = true)
    (k20 : PySem.W.keepIn K (.ref f20) = true)
    (a21 : PySem.W.nsIn K mainGlobals "_law_asked" = some (some (.ref f21)))
    (l21 : K.lookup f21 = some ⟨oc21, od21, .func (PySem.W.fnOf "_law_asked" "_law_asked" (defArgs s_law_asked) (defBody s_law_asked) (defScope s_law_asked) .none kV21 dc21 pm21 an21 cd21 ct21), sl21⟩)
    (c21 : PySem.W.codeIn K cd21 "_law_asked" = true)
    (k21 : PySem.W.keepIn K (.ref f21) = true)
    (a22 : PySem.W.nsIn K mainGlobals "_law_right" = some (some (.ref f22)))
    (l22 : K.lookup f22 = some ⟨oc22, od22, .func (PySem.W.fnOf "_law_right" "_law_right" (defArgs s_law_right) (defBody s_law_right) (defScope s_law_right) .none kV22 dc22 pm22 an22 cd22 ct22), sl22⟩)
    (c22 : PySem.W.codeIn K cd22 "_law_right" = true)
    (k22 : PySem.W.keepIn K (.ref f22) = true)
    (a23 : PySem.W.nsIn K mainGlobals "law" = some (some (.ref f23)))
    (l23 : K.lookup f23 = some ⟨oc23, od23, .func (PySem.W.fnOf "law" "law" (defArgs s_law) (defBody s_law) (defScope s_law) .none kV23 dc23 pm23 an23 cd23 ct23), sl23⟩)
    (c23 : PySem.W.codeIn K cd23 "law" = true)
    (k23 : PySem.W.keepIn K (.ref f23) = true)
    (v0 : PySem.W.nsIn K mainGlobals "MOST_POINTS" = some (some (.int 8 tk0)))
    (v1 : PySem.W.nsIn K mainGlobals "MOST_SETS" = some (some (.int 16 tk1)))
    (z0 : PySem.W.nsIn K mainGlobals "isinstance" = some none)
    (z1 : PySem.W.nsIn K mainGlobals "int" = some none)
    (z2 : PySem.W.nsIn K mainGlobals "bool" = some none)
    (z3 : PySem.W.nsIn K mainGlobals "list" = some none)
    (z4 : PySem.W.nsIn K mainGlobals "all" = some none)
    (z5 : PySem.W.nsIn K mainGlobals "range" = some none)
    (z6 : PySem.W.nsIn K mainGlobals "len" = some none)
    (z7 : PySem.W.nsIn K mainGlobals "tuple" = some none)
    (z8 : PySem.W.nsIn K mainGlobals "enumerate" = some none)
    (z9 : PySem.W.nsIn K mainGlobals "any" = some none)
    (z10 : PySem.W.nsIn K mainGlobals "min" = some none)
    (z11 : PySem.W.nsIn K mainGlobals "max" = some none)
    (z12 : PySem.W.nsIn K mainGlobals "sum" = some none)
    (z13 : PySem.W.nsIn K mainGlobals "abs" = some none)
    (z14 : PySem.W.nsIn K mainGlobals "sorted" = some none)
    (nl : noLst K = true) :
    ∃ fd : FuncData, (∀ (s : Shared) (v : Value), BindsTo s fd ⟨[v], []⟩ [("_law_script", v)]) ∧ ∀ base : Heap, K.In base → base.Ns mainGlobals mg → FnOk l.prog w K mg base CX0 25 fa fd ["_law_script"] (spL K) := by
  have e := hfa.symm.trans (PySem.W.mg_of X G a23)
  cases e
  refine ⟨PySem.W.fnOf "law" "law" (defArgs s_law) (defBody s_law) (defScope s_law) .none kV23 dc23 pm23 an23 cd23 ct23, fun s v => .of_eq rfl, fun base _ _ => ?_⟩
  let t : Tx := ⟨l.prog, w, K, mg, base⟩
  have hb : Bl t := ⟨PySem.W.mg_none_of X G z0, PySem.W.mg_none_of X G z1, PySem.W.mg_none_of X G z2, PySem.W.mg_none_of X G z3, PySem.W.mg_none_of X G z4, PySem.W.mg_none_of X G z5, PySem.W.mg_none_of X G z6, PySem.W.mg_none_of X G z7, PySem.W.mg_none_of X G z8, PySem.W.mg_none_of X G z9, PySem.W.mg_none_of X G z10, PySem.W.mg_none_of X G z11, PySem.W.mg_none_of X G z12, PySem.W.mg_none_of X G z13, PySem.W.mg_none_of X G z14, ⟨_, PySem.W.mg_of X G v0⟩, ⟨_, PySem.W.mg_of X G v1⟩⟩
  letI : CA := ⟨0, 0, CForeteller⟩
  have G_Fo : FoAt t CA.f := ⟨⟨pgF, hdF, poF, saF⟩, nFp, nFs, nFw, nFk, PySem.W.mg_of X G aCF⟩
  have N_NS : NsAt t CNS := ⟨PySem.W.mg_of X G aNS, kNS, eNS, bNS, tNS, ⟨gNS, qNS, bNS, hNS, uNS, xsn, xst, mNS⟩, ⟨CLE, PySem.W.mg_of X G aLE, PySem.W.exm_ref bLE hLE tLE sLE⟩, kit_own sNS iNS tNS sNS⟩
  have G_Ns : ∃ D, NsAt t D := ⟨CNS, N_NS⟩
  have G_KitBadAnswer : ∀ D, NsAt t D → KitAt t D "BadAnswer" false := fun D hD => by
    have e := hD.mg.symm.trans N_NS.mg
    cases e
    exact ⟨CBadAnswer, PySem.W.mg_of X G aBadAnswer, kit_own sNS iBadAnswer tBadAnswer sBadAnswer⟩
  have G_KitBadFamily : ∀ D, NsAt t D → KitAt t D "BadFamily" false := fun D hD => by
    have e := hD.mg.symm.trans N_NS.mg
    cases e
    exact ⟨CBadFamily, PySem.W.mg_of X G aBadFamily, kit_own sNS iBadFamily tBadFamily sBadFamily⟩
  have G_KitBadPoint : ∀ D, NsAt t D → KitAt t D "BadPoint" false := fun D hD => by
    have e := hD.mg.symm.trans N_NS.mg
    cases e
    exact ⟨CBadPoint, PySem.W.mg_of X G aBadPoint, kit_own sNS iBadPoint tBadPoint sBadPoint⟩
  have G_is_whole : FnAt t "is_whole" 1 ["thing"] sp_is_whole := ok_is_whole ⟨⟨_, _, fun_mk (st := s_is_whole) l0 c0 k0, PySem.W.mg_of X G a0⟩⟩ hb
  have G_is_list_of : FnAt t "is_list_of" 2 ["thing", "many"] sp_is_list_of := ok_is_list_of ⟨⟨_, _, fun_mk (st := s_is_list_of) l1 c1 k1, PySem.W.mg_of X G a1⟩⟩ hb G_is_whole
  have G_asked_family : FnAt t "asked_family" 3 ["family"] sp_asked_family := ok_asked_family ⟨⟨_, _, fun_mk (st := s_asked_family) l2 c2 k2, PySem.W.mg_of X G a2⟩⟩ hb G_is_whole G_is_list_of
  have G_asked_point : FnAt t "asked_point" 2 ["family", "point"] sp_asked_point := ok_asked_point ⟨⟨_, _, fun_mk (st := s_asked_point) l3 c3 k3, PySem.W.mg_of X G a3⟩⟩ hb G_is_whole
  have G_asked_answer : FnAt t "asked_answer" 1 ["there"] sp_asked_answer := ok_asked_answer ⟨⟨_, _, fun_mk (st := s_asked_answer) l4 c4 k4, PySem.W.mg_of X G a4⟩⟩ hb
  have G_halved : FnAt t "halved" 1 ["sets", "point", "there"] sp_halved := ok_halved ⟨⟨_, _, fun_mk (st := s_halved) l5 c5 k5, PySem.W.mg_of X G a5⟩⟩ hb
  have G_key_of : FnAt t "key_of" 1 ["sets"] sp_key_of := ok_key_of ⟨⟨_, _, fun_mk (st := s_key_of) l6 c6 k6, PySem.W.mg_of X G a6⟩⟩ hb
  have G_parting : FnAt t "parting" 2 ["sets", "points"] sp_parting := ok_parting ⟨⟨_, _, fun_mk (st := s_parting) l7 c7 k7, PySem.W.mg_of X G a7⟩⟩ hb G_halved
  have G_mistakes_of : FnAt t "mistakes_of" 19 ["sets", "points", "known"] (sp_mistakes_of t.P t.w 17) := ok_mistakes_of ⟨⟨_, _, fun_mk (st := s_mistakes_of) l8 c8 k8, PySem.W.mg_of X G a8⟩⟩ hb G_key_of G_parting G_halved 17
  have G_Foreteller___init__ : MkAt t "Foreteller" CA.f 4 ["self", "family"] (sp_Foreteller___init__ t) := ok_Foreteller___init__ ⟨⟨_, _, fun_mk (st := s_Foreteller___init__) l9 c9 k9, ⟨mkF, a9, i9, kcF⟩⟩, PySem.W.mg_of X G aCF⟩ hb G_asked_family G_Fo
  have G_Foreteller_guess : MethAt t CA.f "guess" 20 ["self", "point"] (sp_Foreteller_guess t) := ok_Foreteller_guess ⟨⟨_, _, fun_mk (st := s_Foreteller_guess) l10 c10 k10, ⟨a10, i10, k10⟩⟩⟩ hb G_asked_point G_mistakes_of G_halved G_Fo
  have GX_Foreteller_tell : MethAtX t CA.f "tell" 21 ["self", "point", "there"] (spX_Foreteller_tell t) := okX_Foreteller_tell ⟨⟨_, _, fun_mk (st := s_Foreteller_tell) l11 c11 k11, ⟨a11, i11, k11⟩⟩⟩ hb G_asked_point G_asked_answer G_halved G_Fo G_Ns
  have G_Foreteller_tell : MethAt t CA.f "tell" 21 ["self", "point", "there"] (sp_Foreteller_tell t) := ok_Foreteller_tell ⟨⟨_, _, fun_mk (st := s_Foreteller_tell) l11 c11 k11, ⟨a11, i11, k11⟩⟩⟩ hb G_asked_point G_asked_answer G_halved G_Foreteller_guess G_Fo
  have G_FoP_mistakes_made : MethAt t CA.f "mistakes_made" 1 ["self"] (spP_Foreteller_mistakes_made t) := okP_Foreteller_mistakes_made ⟨⟨_, _, fun_mk (st := s_Foreteller_mistakes_made) l12 c12 k12, ⟨a12, i12, k12⟩⟩⟩ hb G_Fo
  have G_Foreteller_mistakes_made : MethAt t CA.f "mistakes_made" 1 ["self"] (sp_Foreteller_mistakes_made t) := ok_Foreteller_mistakes_made ⟨⟨_, _, fun_mk (st := s_Foreteller_mistakes_made) l12 c12 k12, ⟨a12, i12, k12⟩⟩⟩ hb G_Fo
  have G_FoP_sets_left : MethAt t CA.f "sets_left" 1 ["self"] (spP_Foreteller_sets_left t) := okP_Foreteller_sets_left ⟨⟨_, _, fun_mk (st := s_Foreteller_sets_left) l13 c13 k13, ⟨a13, i13, k13⟩⟩⟩ hb G_Fo
  have G_Foreteller_sets_left : MethAt t CA.f "sets_left" 1 ["self"] (sp_Foreteller_sets_left t) := ok_Foreteller_sets_left ⟨⟨_, _, fun_mk (st := s_Foreteller_sets_left) l13 c13 k13, ⟨a13, i13, k13⟩⟩⟩ hb G_Fo
  have G_law_number : FnAt t "_law_number" 1 ["_law_cell", "_law_at", "_law_whole"] sp_law_number := ok_law_number ⟨⟨_, _, fun_mk (st := s_law_number) l14 c14 k14, PySem.W.mg_of X G a14⟩⟩ hb
  have G_law_family : FnAt t "_law_family" 2 ["_law_script", "_law_by", "_law_points", "_law_most"] sp_law_family := ok_law_family ⟨⟨_, _, fun_mk (st := s_law_family) l15 c15 k15, PySem.W.mg_of X G a15⟩⟩ hb G_law_number
  have G_law_copied : FnAt t "_law_copied" 1 ["_law_family_here"] sp_law_copied := ok_law_copied ⟨⟨_, _, fun_mk (st := s_law_copied) l16 c16 k16, PySem.W.mg_of X G a16⟩⟩ hb
  have G_law_half : FnAt t "_law_half" 1 ["_law_sets", "_law_point", "_law_there"] sp_law_half := ok_law_half ⟨⟨_, _, fun_mk (st := s_law_half) l17 c17 k17, PySem.W.mg_of X G a17⟩⟩ hb
  have G_law_least : FnAt t "_law_least" 18 ["_law_sets", "_law_points"] (sp_law_least 17) := ok_law_least ⟨⟨_, _, fun_mk (st := s_law_least) l18 c18 k18, PySem.W.mg_of X G a18⟩⟩ hb G_law_half 17
  have G_law_none : FnAt t "_law_none" 22 ["_law_teller", "_law_point", "_law_there"] (sp_law_none t) := ok_law_none ⟨⟨_, _, fun_mk (st := s_law_none) l19 c19 k19, PySem.W.mg_of X G a19⟩⟩ hb GX_Foreteller_tell G_Fo G_Ns G_KitBadAnswer G_KitBadFamily G_KitBadPoint
  have G_law_told : FnAt t "_law_told" 2 ["_law_teller", "_law_sets", "_law_wrong"] (sp_law_told t) := ok_law_told ⟨⟨_, _, fun_mk (st := s_law_told) l20 c20 k20, PySem.W.mg_of X G a20⟩⟩ hb G_FoP_sets_left G_FoP_mistakes_made G_Fo
  have G_law_asked : FnAt t "_law_asked" 23 ["_law_teller", "_law_sets", "_law_point", "_law_there"] (sp_law_asked t) := ok_law_asked ⟨⟨_, _, fun_mk (st := s_law_asked) l21 c21 k21, PySem.W.mg_of X G a21⟩⟩ hb G_Foreteller_guess G_law_half G_Foreteller_tell G_law_none G_Fo
  have G_law_right : FnAt t "_law_right" 24 ["_law_family_here", "_law_script", "_law_against"] sp_law_right := ok_law_right ⟨⟨_, _, fun_mk (st := s_law_right) l22 c22 k22, PySem.W.mg_of X G a22⟩⟩ hb G_law_copied G_law_least G_Foreteller___init__ G_law_number G_law_asked G_Foreteller_guess G_law_told G_Fo
  exact (fn_ok (k := 24) (t := t) (fun_mk (st := s_law) l23 c23 k23) sc_law (fun _ => rfl) fun X b i cf at_ hR => ⟨_, b_law cf at_ hb hR G_Foreteller___init__ G_law_family G_law_none G_Foreteller_guess G_Foreteller_tell G_law_right G_Fo i.1 i.2⟩).imp (spL_imp nl law_ok)
theorem walk {l : PySem.W.OpenLaw} {q : Program} {loose : List Str} {XP : (Str → Option Value) → Heap → Prop} {YP : World → Heap → Prop} {d : DefRec} {K : Params → PySem.W.Frag} (hn : l.most = some 63) (hdf : d.params.defaults = [])
    (hY : ∀ (w : World) (h : Heap), YP w h → (K w.params).In h)
    (F : ∀ (w : World) (mg : Str → Option Value) (fa : Addr) (h : Heap), (K w.params).In h → h.Ns mainGlobals mg → mg d.name = some (.ref fa) →
      ∃ fd : FuncData, (∀ (s : Shared) (u : Value), BindsTo s fd ⟨[u], []⟩ [("_law_script", u)]) ∧ ∀ base : Heap, (K w.params).In base → base.Ns mainGlobals mg → FnOk l.prog w (K w.params) mg base CX0 25 fa fd ["_law_script"] (spL (K w.params))) :
    PySem.W.WalkO q loose XP YP l.row.toRowW d [] (fun f vs => PySem.call f vs) :=
  walk_ofB (n := 63) (k := 25) (x := "_law_script") (CX := fun _ => CX0) (sp := fun w => spL (K w.params)) hn (by decide) hdf ⟨rfl, by decide, by decide⟩ hY F (fun _ _ a ns hl hb _ hS => ⟨a, ns, rfl, ⟨hl, hb⟩, hS, fun _ _ e => e⟩) fun _ _ _ _ _ z => z
end G
open PySem PySem.W PyProof.Rows
set_option maxRecDepth 100000 in
set_option maxHeartbeats 0 in
theorem PySem.Challenge.cw_fewlessons_k09_whole_foreteller_holds : PySem.Challenge.rw_fewlessons_k09_whole_foreteller.Holds := by
  w_on; o_law; k_head; (case hw => w_witness2)
  k_fill
  refine G.walk (l := PySem.Challenge.rw_fewlessons_k09_whole_foreteller) rfl rfl (fun w h Y => PySem.W.kIn_of Y) ?F
  case F =>
    intro w mg fa h KX GG hmg
    refine' G.all_mk KX GG hmg ?aCF ?pgF ?hdF ?poF ?saF ?mkF ?kcF ?nFp ?nFs ?nFw ?nFk ?aNS ?kNS ?eNS ?bNS ?tNS ?gNS ?qNS ?hNS ?uNS ?xsn ?xst ?mNS ?aLE ?bLE ?hLE ?tLE ?sLE ?sNS ?iNS ?aBadAnswer ?iBadAnswer ?tBadAnswer ?sBadAnswer ?aBadFamily ?iBadFamily ?tBadFamily ?sBadFamily ?aBadPoint ?iBadPoint ?tBadPoint ?sBadPoint ?a0 ?l0 ?c0 ?k0 ?a1 ?l1 ?c1 ?k1 ?a2 ?l2 ?c2 ?k2 ?a3 ?l3 ?c3 ?k3 ?a4 ?l4 ?c4 ?k4 ?a5 ?l5 ?c5 ?k5 ?a6 ?l6 ?c6 ?k6 ?a7 ?l7 ?c7 ?k7 ?a8 ?l8 ?c8 ?k8 ?i9 ?a9 ?l9 ?c9 ?k9 ?i10 ?a10 ?l10 ?c10 ?k10 ?i11 ?a11 ?l11 ?c11 ?k11 ?i12 ?a12 ?l12 ?c12 ?k12 ?i13 ?a13 ?l13 ?c13 ?k13 ?a14 ?l14 ?c14 ?k14 ?a15 ?l15 ?c15 ?k15 ?a16 ?l16 ?c16 ?k16 ?a17 ?l17 ?c17 ?k17 ?a18 ?l18 ?c18 ?k18 ?a19 ?l19 ?c19 ?k19 ?a20 ?l20 ?c20 ?k20 ?a21 ?l21 ?c21 ?k21 ?a22 ?l22 ?c22 ?k22 ?a23 ?l23 ?c23 ?k23 ?v0 ?v1 ?z0 ?z1 ?z2 ?z3 ?z4 ?z5 ?z6 ?z7 ?z8 ?z9 ?z10 ?z11 ?z12 ?z13 ?z14 ?nl
    (case aCF => k_is)
    (case pgF => k_is)
    (case hdF => k_is)
    (case poF => k_is)
    (case saF => k_is)
    (case mkF => k_is)
    (case kcF => k_is)
    (case nFp => k_is)
    (case nFs => k_is)
    (case nFw => k_is)
    (case nFk => k_is)
    (case aNS => k_is)
    (case kNS => k_is)
    (case eNS => k_exc)
    (case bNS => k_is)
    (case tNS => k_is)
    (case gNS => k_is)
    (case qNS => k_is)
    (case hNS => k_is)
    (case uNS => k_is)
    (case xsn => k_is)
    (case xst => k_is)
    (case mNS => k_is)
    (case aLE => k_is)
    (case bLE => k_is)
    (case hLE => k_is)
    (case tLE => k_is)
    (case sLE => k_is)
    (case sNS => first | rfl | k_is)
    (case iNS => k_is)
    (case aBadAnswer => k_is)
    (case iBadAnswer => k_is)
    (case tBadAnswer => k_is)
    (case sBadAnswer => k_is)
    (case aBadFamily => k_is)
    (case iBadFamily => k_is)
    (case tBadFamily => k_is)
    (case sBadFamily => k_is)
    (case aBadPoint => k_is)
    (case iBadPoint => k_is)
    (case tBadPoint => k_is)
    (case sBadPoint => k_is)
    (case a0 => k_is)
    (case l0 => k_is)
    (case c0 => k_is)
    (case k0 => k_is)
    (case a1 => k_is)
    (case l1 => k_is)
    (case c1 => k_is)
    (case k1 => k_is)
    (case a2 => k_is)
    (case l2 => k_is)
    (case c2 => k_is)
    (case k2 => k_is)
    (case a3 => k_is)
    (case l3 => k_is)
    (case c3 => k_is)
    (case k3 => k_is)
    (case a4 => k_is)
    (case l4 => k_is)
    (case c4 => k_is)
    (case k4 => k_is)
    (case a5 => k_is)
    (case l5 => k_is)
    (case c5 => k_is)
    (case k5 => k_is)
    (case a6 => k_is)
    (case l6 => k_is)
    (case c6 => k_is)
    (case k6 => k_is)
    (case a7 => k_is)
    (case l7 => k_is)
    (case c7 => k_is)
    (case k7 => k_is)
    (case a8 => k_is)
    (case l8 => k_is)
    (case c8 => k_is)
    (case k8 => k_is)
    (case i9 => k_is)
    (case a9 => k_is)
    (case l9 => k_is)
    (case c9 => k_is)
    (case k9 => k_is)
    (case i10 => k_is)
    (case a10 => k_is)
    (case l10 => k_is)
    (case c10 => k_is)
    (case k10 => k_is)
    (case i11 => k_is)
    (case a11 => k_is)
    (case l11 => k_is)
    (case c11 => k_is)
    (case k11 => k_is)
    (case i12 => k_is)
    (case a12 => k_is)
    (case l12 => k_is)
    (case c12 => k_is)
    (case k12 => k_is)
    (case i13 => k_is)
    (case a13 => k_is)
    (case l13 => k_is)
    (case c13 => k_is)
    (case k13 => k_is)
    (case a14 => k_is)
    (case l14 => k_is)
    (case c14 => k_is)
    (case k14 => k_is)
    (case a15 => k_is)
    (case l15 => k_is)
    (case c15 => k_is)
    (case k15 => k_is)
    (case a16 => k_is)
    (case l16 => k_is)
    (case c16 => k_is)
    (case k16 => k_is)
    (case a17 => k_is)
    (case l17 => k_is)
    (case c17 => k_is)
    (case k17 => k_is)
    (case a18 => k_is)
    (case l18 => k_is)
    (case c18 => k_is)
    (case k18 => k_is)
    (case a19 => k_is)
    (case l19 => k_is)
    (case c19 => k_is)
    (case k19 => k_is)
    (case a20 => k_is)
    (case l20 => k_is)
    (case c20 => k_is)
    (case k20 => k_is)
    (case a21 => k_is)
    (case l21 => k_is)
    (case c21 => k_is)
    (case k21 => k_is)
    (case a22 => k_is)
    (case l22 => k_is)
    (case c22 => k_is)
    (case k22 => k_is)
    (case a23 => k_is)
    (case l23 => k_is)
    (case c23 => k_is)
    (case k23 => k_is)
    (case v0 => k_is)
    (case v1 => k_is)
    (case z0 => k_is)
    (case z1 => k_is)
    (case z2 => k_is)
    (case z3 => k_is)
    (case z4 => k_is)
    (case z5 => k_is)
    (case z6 => k_is)
    (case z7 => k_is)
    (case z8 => k_is)
    (case z9 => k_is)
    (case z10 => k_is)
    (case z11 => k_is)
    (case z12 => k_is)
    (case z13 => k_is)
    (case z14 => k_is)
    (case nl => exact rfl)
