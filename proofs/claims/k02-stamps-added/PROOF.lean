import PyProof.Rows.All
import Wide.All
import OpenK.AllK
import Wide.FinOn
import HandS.ForMost
import HandS.ForExc
import HandS.TryMany
import HandS.Wide
import HandS.Flow
import HandS.Deep
import HandS.Codes
import HandS.IsInst
import HandS.Text
import HandS.RaiseMore
import KE.GoesMore
import HandS.Strs
import HandS.TryOnly
import HandS.ExcOwn
import PyProof.ReprRoads
import HandS.Star
import HandS.Property
import HandS.ClsMeth
import HandS.Style
import PyProof.StrBlock2
import KE.Datum
import HandS.Ends
import PySem.Challenge.RW_overstamps_k02_stamps_added
import PyProof.ExcBaseAll.ValueError
set_option Elab.async false
set_option linter.all false
set_option maxRecDepth 100000
set_option maxHeartbeats 4000000
namespace Ov
open PySem PySem.Spec PyProof.Rows L2

/-- data by content -/
inductive D where
  | non | bl (b : Bool) | int (i : Int) | str (x : Str)
  | tup (ds : List D) | lst (ds : List D)
  | ins (n : Nat) (C : Str) (fs : List (Str × D))
  | op (v : V)
  | cls (C : Str)
  | scr (ns : List Int)

structure Cell where
  own : Bool
  d : D
/-- a def's slots, and how many instances were made -/
structure Sta where
  sl : List (Option Cell)
  cnt : Nat
  /-- slots that are never stored anew -/
  pin : List Bool
/-- an exception: its class's name, its attributes -/
structure Exn where
  C : Str
  fs : List (Str × D)
inductive Res (α : Type) where
  | ok (a : α) (S : Sta)
  | exc (x : Exn) (S : Sta)
  | stuck
abbrev M (α : Type) := Sta → Res α
def M.ret {α : Type} (a : α) : M α := fun S => .ok a S
def M.bind {α β : Type} (m : M α) (f : α → M β) : M β := fun S => match m S with
  | .ok a S1 => f a S1
  | .exc x S1 => .exc x S1
  | .stuck => .stuck
/-- an operand: a value at hand, or the thing at a slot -/
inductive Opn where
  | v (c : Cell)
  | s (i : Nat)

/-- what is fixed: the written part, the module's names -/
structure Gh where
  K : PySem.W.Frag
  mg : Str → Option Value

/-- what is tracked and not in O stays as it is -/
def Kept (H H' : Hp) (O : Addr → Prop) : Prop := ∀ a o, H a = some o → ¬ O a → H' a = some o
/-- O' has grown by new addresses alone -/
def Grown (H : Hp) (O O' : Addr → Prop) : Prop := ∀ a, O' a → O a ∨ H a = none
theorem Grown.not {H : Hp} {O O' : Addr → Prop} {a : Addr} (g : Grown H O O') (h : H a ≠ none) (n : ¬ O a) : ¬ O' a := fun z => (g a z).elim n h
/-- the ids' addresses: more may come -/
def Ids (ids ids' : List Addr) : Prop := ∀ (n : Nat) (a : Addr), ids[n]? = some a → ids'[n]? = some a
theorem Ids.rfl {ids : List Addr} : Ids ids ids := fun _ _ h => h
theorem Ids.trans {a b c : List Addr} (h : Ids a b) (k : Ids b c) : Ids a c := fun n x e => k n x (h n x e)

/-- v stands for d; nothing of it lies in O -/
inductive Rep (g : Gh) (ids : List Addr) (H : Hp) (O : Addr → Prop) : D → V → Prop
  | non : Rep g ids H O .non .non
  | bl (b : Bool) : Rep g ids H O (.bl b) (.bl b)
  | int (i : Int) : Rep g ids H O (.int i) (.int i)
  | str (x : Str) : Rep g ids H O (.str x) (.str x)
  | op (v : V) : Rep g ids H O (.op v) v
  | cls {C : Str} {c : Addr} (h : g.mg C = some (.ref c)) : Rep g ids H O (.cls C) (.ref c)
  | scr {a : Addr} {ns : List Int} (h : (∃ o, H a = some (.frz o (.lst (ns.map V.int))) ∧ ¬ O a) ∨ ∃ (o : Obj) (its : Array Value) (n : Nat), g.K.lookup a = some o ∧ o.cls = .type "list" ∧ o.dict = none ∧ o.data = .seq its n ∧ its.size ≤ sizeLine ∧ Vals (ns.map V.int) its.toList) : Rep g ids H O (.scr ns) (.ref a)
  | tup {a : Addr} {xs : List V} {ds : List D} (h : H a = some (.tup xs)) (ho : ¬ O a) (l : xs.length = ds.length) (r : ∀ (i : Nat) (d : D) (x : V), ds[i]? = some d → xs[i]? = some x → Rep g ids H O d x) : Rep g ids H O (.tup ds) (.ref a)
  | lst {a : Addr} {xs : List V} {ds : List D} (h : H a = some (.lst xs)) (ho : ¬ O a) (l : xs.length = ds.length) (r : ∀ (i : Nat) (d : D) (x : V), ds[i]? = some d → xs[i]? = some x → Rep g ids H O d x) : Rep g ids H O (.lst ds) (.ref a)
  | ins {n : Nat} {C : Str} {c a dx : Addr} {fs : List (Str × D)} {vs : List (Str × V)} (hn : ids[n]? = some a) (hC : g.mg C = some (.ref c)) (h : H a = some (.ins c dx vs)) (ho : ¬ O a) (l : vs.map (·.1) = fs.map (·.1))
      (r : ∀ (i : Nat) (f f' : Str) (d : D) (x : V), fs[i]? = some (f, d) → vs[i]? = some (f', x) → Rep g ids H O d x) : Rep g ids H O (.ins n C fs) (.ref a)

theorem Rep.mono {g : Gh} {ids ids' : List Addr} {H H' : Hp} {O O' : Addr → Prop} {d : D} {v : V} (h : Rep g ids H O d v) (k : Kept H H' O) (gr : Grown H O O') (hi : Ids ids ids') : Rep g ids' H' O' d v := by
  induction h with
  | non => exact .non
  | bl b => exact .bl b
  | int i => exact .int i
  | str x => exact .str x
  | op v => exact .op v
  | cls h => exact .cls h
  | scr h =>
    rcases h with ⟨o, h, n⟩ | h
    · exact .scr (.inl ⟨o, k _ _ h n, gr.not (by rw [h]; simp) n⟩)
    · exact .scr (.inr h)
  | tup h ho l r ih => exact .tup (k _ _ h ho) (gr.not (by rw [h]; simp) ho) l ih
  | lst h ho l r ih => exact .lst (k _ _ h ho) (gr.not (by rw [h]; simp) ho) l ih
  | ins hn hC h ho l r ih => exact .ins (hi _ _ hn) hC (k _ _ h ho) (gr.not (by rw [h]; simp) ho) l ih

/-- a list of them -/
def RepL (g : Gh) (ids : List Addr) (H : Hp) (O : Addr → Prop) (ds : List D) (xs : List V) : Prop :=
  xs.length = ds.length ∧ ∀ (i : Nat) (d : D) (x : V), ds[i]? = some d → xs[i]? = some x → Rep g ids H O d x
def RepF (g : Gh) (ids : List Addr) (H : Hp) (O : Addr → Prop) (fs : List (Str × D)) (vs : List (Str × V)) : Prop :=
  vs.map (·.1) = fs.map (·.1) ∧ ∀ (i : Nat) (f f' : Str) (d : D) (x : V), fs[i]? = some (f, d) → vs[i]? = some (f', x) → Rep g ids H O d x
theorem RepL.mono {g : Gh} {ids ids' : List Addr} {H H' : Hp} {O O' : Addr → Prop} {ds : List D} {xs : List V} (h : RepL g ids H O ds xs) (k : Kept H H' O) (gr : Grown H O O') (hi : Ids ids ids') : RepL g ids' H' O' ds xs :=
  ⟨h.1, fun i d x a b => (h.2 i d x a b).mono k gr hi⟩
theorem RepF.mono {g : Gh} {ids ids' : List Addr} {H H' : Hp} {O O' : Addr → Prop} {fs : List (Str × D)} {vs : List (Str × V)} (h : RepF g ids H O fs vs) (k : Kept H H' O) (gr : Grown H O O') (hi : Ids ids ids') : RepF g ids' H' O' fs vs :=
  ⟨h.1, fun i f f' d x a b => (h.2 i f f' d x a b).mono k gr hi⟩

/-- a thing that is owned: it stands at a, its items apart from O -/
def OwnRep (g : Gh) (ids : List Addr) (H : Hp) (O : Addr → Prop) : D → Addr → Prop
  | .lst ds, a => ∃ xs, H a = some (.lst xs) ∧ RepL g ids H O ds xs
  | .ins n C fs, a => ∃ c dx vs, ids[n]? = some a ∧ g.mg C = some (.ref c) ∧ H a = some (.ins c dx vs) ∧ RepF g ids H O fs vs
  | _, _ => False
theorem OwnRep.mono {g : Gh} {ids ids' : List Addr} {H H' : Hp} {O O' : Addr → Prop} {d : D} {a : Addr} (h : OwnRep g ids H O d a) (ha : ∀ o, H a = some o → H' a = some o) (k : Kept H H' O) (gr : Grown H O O') (hi : Ids ids ids') : OwnRep g ids' H' O' d a := by
  cases d with
  | lst ds => obtain ⟨xs, e, r⟩ := h; exact ⟨xs, ha _ e, r.mono k gr hi⟩
  | ins n C fs => obtain ⟨c, dx, vs, e1, e2, e3, r⟩ := h; exact ⟨c, dx, vs, hi _ _ e1, e2, ha _ e3, r.mono k gr hi⟩
  | _ => exact h.elim
theorem OwnRep.some {g : Gh} {ids : List Addr} {H : Hp} {O : Addr → Prop} {d : D} {a : Addr} (h : OwnRep g ids H O d a) : H a ≠ none := by
  cases d with
  | lst ds => obtain ⟨xs, e, r⟩ := h; rw [e]; simp
  | ins n C fs => obtain ⟨c, dx, vs, e1, e2, e3, r⟩ := h; rw [e3]; simp
  | _ => exact h.elim
/-- no longer owned: it may be shared from here on, if it is apart from O' -/
theorem OwnRep.free {g : Gh} {ids : List Addr} {H : Hp} {O O' : Addr → Prop} {d : D} {a : Addr} (h : OwnRep g ids H O d a) (gr : ∀ b, O' b → O b) (n : ¬ O' a) : Rep g ids H O' d (.ref a) := by
  have k : Kept H H O := fun _ _ e _ => e
  have gr' : Grown H O O' := fun b z => .inl (gr b z)
  cases d with
  | lst ds => obtain ⟨xs, e, r⟩ := h; exact .lst e n r.1 (r.mono k gr' .rfl).2
  | ins m C fs => obtain ⟨c, dx, vs, e1, e2, e3, r⟩ := h; exact .ins e1 e2 e3 n r.1 (r.mono k gr' .rfl).2
  | _ => exact h.elim

def CellRep (g : Gh) (ids : List Addr) (H : Hp) (O : Addr → Prop) (c : Cell) (v : V) : Prop :=
  if c.own = true then ∃ a, v = .ref a ∧ OwnRep g ids H O c.d a else Rep g ids H O c.d v

/-- the slots' owned things -/
def OwnA (S : Sta) (σ : L2.St) (a : Addr) : Prop := ∃ (i : Nat) (d : D), S.sl[i]? = some (some ⟨true, d⟩) ∧ σ[i]? = some (some (.ref a))
def OA (S : Sta) (σ : L2.St) (Z : Addr → Prop) (a : Addr) : Prop := Z a ∨ OwnA S σ a

structure Rel (g : Gh) (ids : List Addr) (S : Sta) (σ : L2.St) (H : Hp) (Z : Addr → Prop) : Prop where
  len : S.sl.length = σ.length
  rep : ∀ (i : Nat) (c : Cell), S.sl[i]? = some (some c) → ∃ v, σ[i]? = some (some v) ∧ CellRep g ids H (OA S σ Z) c v
  inj : ∀ (i j : Nat) (di dj : D) (a : Addr), S.sl[i]? = some (some ⟨true, di⟩) → S.sl[j]? = some (some ⟨true, dj⟩) → σ[i]? = some (some (.ref a)) → σ[j]? = some (some (.ref a)) → i = j
  apart : ∀ a, OwnA S σ a → ¬ Z a
  trk : ∀ a, Z a → H a ≠ none
  cnt : ids.length = S.cnt
  nd : ids.Nodup
  idt : ∀ a ∈ ids, H a ≠ none

/-- the temporaries that are owned -/
def ZL (Z : Addr → Prop) (os : List Opn) (vs : List V) (b : Addr) : Prop := Z b ∨ ∃ (i : Nat) (d : D), os[i]? = some (.v ⟨true, d⟩) ∧ vs[i]? = some (.ref b)

/-- what an operand is -/
def OpRep (g : Gh) (ids : List Addr) (S : Sta) (σ : L2.St) (H : Hp) (O : Addr → Prop) : Opn → V → Prop
  | .s i, v => σ[i]? = some (some v) ∧ ∃ c, S.sl[i]? = some (some c)
  | .v c, v => CellRep g ids H O c v

/-- behind the evaluation of some operands -/
structure Aft (g : Gh) (ids : List Addr) (S : Sta) (σ : L2.St) (H : Hp) (Z : Addr → Prop) (os : List Opn) (vs : List V) (ids' : List Addr) (S' : Sta) (H' : Hp) : Prop where
  rel : Rel g ids' S' σ H' (ZL Z os vs)
  len : vs.length = os.length
  res : ∀ (i : Nat) (o : Opn) (v : V), os[i]? = some o → vs[i]? = some v → OpRep g ids' S' σ H' (OA S' σ (ZL Z os vs)) o v
  new : ∀ (i : Nat) (d : D) (a : Addr), os[i]? = some (.v ⟨true, d⟩) → vs[i]? = some (.ref a) → H a = none
  two : ∀ (i j : Nat) (d e : D) (a : Addr), os[i]? = some (.v ⟨true, d⟩) → os[j]? = some (.v ⟨true, e⟩) → vs[i]? = some (.ref a) → vs[j]? = some (.ref a) → i = j
  keep : Kept H H' (OwnA S σ)
  trk : ∀ a, H a ≠ none → H' a ≠ none
  sub : ∀ (i : Nat) (d : D), S'.sl[i]? = some (some ⟨true, d⟩) → ∃ d0, S.sl[i]? = some (some ⟨true, d0⟩)
  bnd : ∀ (i : Nat) (c : Cell), S.sl[i]? = some (some c) → ∃ c', S'.sl[i]? = some (some c')
  ids : Ids ids ids'
  pin : S'.pin = S.pin

/-! ### how the parts of an evaluation come together -/
section
variable {g : Gh} {ids ids1 ids2 : List Addr} {S S1 S2 : Sta} {σ : L2.St} {H H1 H2 : Hp} {Z : Addr → Prop} {os ps : List Opn} {vs ws : List V}
theorem Kept.refl {O : Addr → Prop} : Kept H H O := fun _ _ e _ => e
theorem CellRep.mono {ids' : List Addr} {H' : Hp} {O O' : Addr → Prop} {c : Cell} {v : V} (h : CellRep g ids H O c v) (ha : c.own = true → ∀ a o, v = .ref a → H a = some o → H' a = some o) (k : Kept H H' O) (gr : Grown H O O') (hi : Ids ids ids') :
    CellRep g ids' H' O' c v := by
  unfold CellRep at h ⊢
  cases hc : c.own with
  | true =>
    rw [hc] at h
    obtain ⟨a, e, r⟩ := (if_pos rfl).mp h
    rw [if_pos rfl]
    exact ⟨a, e, r.mono (fun o => ha hc a o e) k gr hi⟩
  | false =>
    rw [hc] at h
    rw [if_neg Bool.false_ne_true] at h ⊢
    exact h.mono k gr hi
theorem CellRep.own {O : Addr → Prop} {d : D} {v : V} (h : CellRep g ids H O ⟨true, d⟩ v) : ∃ a, v = .ref a ∧ OwnRep g ids H O d a := h
theorem CellRep.sh {O : Addr → Prop} {d : D} {v : V} (h : CellRep g ids H O ⟨false, d⟩ v) : Rep g ids H O d v := h

theorem ZL.nil : ZL Z [] [] = Z := by
  funext b
  simp [ZL]
theorem ZL.append {b : Addr} (hl : vs.length = os.length) : ZL Z (os ++ ps) (vs ++ ws) b ↔ ZL (ZL Z os vs) ps ws b := by
  constructor
  · rintro (h | ⟨i, d, h1, h2⟩)
    · exact .inl (.inl h)
    · by_cases hi : i < os.length
      · rw [List.getElem?_append_left hi] at h1
        rw [List.getElem?_append_left (by omega)] at h2
        exact .inl (.inr ⟨i, d, h1, h2⟩)
      · rw [List.getElem?_append_right (by omega)] at h1
        rw [List.getElem?_append_right (by omega)] at h2
        rw [hl] at h2
        exact .inr ⟨i - os.length, d, h1, h2⟩
  · rintro ((h | ⟨i, d, h1, h2⟩) | ⟨i, d, h1, h2⟩)
    · exact .inl h
    · obtain ⟨q, _⟩ := List.getElem?_eq_some_iff.mp h1
      exact .inr ⟨i, d, by rw [List.getElem?_append_left q]; exact h1, by rw [List.getElem?_append_left (by omega)]; exact h2⟩
    · refine .inr ⟨os.length + i, d, ?_, ?_⟩
      · rw [List.getElem?_append_right (by omega), Nat.add_sub_cancel_left]; exact h1
      · rw [List.getElem?_append_right (by omega), hl, Nat.add_sub_cancel_left]; exact h2
/-- less is protected -/
theorem Rel.less {Z' : Addr → Prop} (r : Rel g ids S σ H Z) (h : ∀ a, Z' a → Z a) : Rel g ids S σ H Z' := by
  have gr : ∀ a, OA S σ Z' a → OA S σ Z a := fun a z => z.elim (fun z => .inl (h a z)) .inr
  refine ⟨r.len, fun i c e => ?_, r.inj, fun a o z => r.apart a o (h a z), fun a z => r.trk a (h a z), r.cnt, r.nd, r.idt⟩
  obtain ⟨v, e1, e2⟩ := r.rep i c e
  exact ⟨v, e1, e2.mono (fun _ _ _ _ q => q) .refl (fun a z => .inl (gr a z)) .rfl⟩
theorem Aft.nil (r : Rel g ids S σ H Z) : Aft g ids S σ H Z [] [] ids S H := by
  refine ⟨by rw [ZL.nil]; exact r, rfl, fun i o v e => by simp at e, fun i d a e => by simp at e, fun i j d e a h => by simp at h, .refl, fun _ h => h, fun i d h => ⟨d, h⟩, fun i c h => ⟨c, h⟩, .rfl, rfl⟩
theorem OwnA.less (sub : ∀ (i : Nat) (d : D), S1.sl[i]? = some (some ⟨true, d⟩) → ∃ d0, S.sl[i]? = some (some ⟨true, d0⟩)) {a : Addr} (h : OwnA S1 σ a) : OwnA S σ a := by
  obtain ⟨i, d, e1, e2⟩ := h
  obtain ⟨d0, e0⟩ := sub i d e1
  exact ⟨i, d0, e0, e2⟩
/-- first os, then ps -/
theorem Aft.append (A : Aft g ids S σ H Z os vs ids1 S1 H1) (B : Aft g ids1 S1 σ H1 (ZL Z os vs) ps ws ids2 S2 H2) : Aft g ids S σ H Z (os ++ ps) (vs ++ ws) ids2 S2 H2 := by
  have ez : ZL Z (os ++ ps) (vs ++ ws) = ZL (ZL Z os vs) ps ws := by
    funext b
    exact propext (ZL.append A.len)
  have keep1 : Kept H1 H2 (OA S1 σ (ZL Z os vs)) := fun a o e n => B.keep a o e fun z => n (.inr z)
  have gr : Grown H1 (OA S1 σ (ZL Z os vs)) (OA S2 σ (ZL (ZL Z os vs) ps ws)) := by
    rintro a ((z | ⟨i, d, h1, h2⟩) | z)
    · exact .inl (.inl z)
    · exact .inr (B.new i d a h1 h2)
    · exact .inl (.inr (OwnA.less B.sub z))
  refine ⟨by rw [ez]; exact B.rel, by rw [List.length_append, List.length_append, A.len, B.len], fun i o v h1 h2 => ?_, fun i d a h1 h2 => ?_, fun i j d e a h1 h2 h3 h4 => ?_, fun a o e n => ?_, fun a h => B.trk a (A.trk a h), fun i d h => ?_, fun i c h => ?_, A.ids.trans B.ids, B.pin.trans A.pin⟩
  · rw [ez]
    by_cases hi : i < os.length
    · rw [List.getElem?_append_left hi] at h1
      rw [List.getElem?_append_left (by rw [A.len]; exact hi)] at h2
      have q := A.res i o v h1 h2
      cases o with
      | s j =>
        obtain ⟨q1, c, q2⟩ := q
        exact ⟨q1, B.bnd j c q2⟩
      | v c =>
        refine CellRep.mono (c := c) q (fun hc a o e1 e2 => B.keep a o e2 fun z => ?_) keep1 gr B.ids
        obtain ⟨b, dd⟩ := c
        have hb : b = true := hc
        subst hb
        subst e1
        exact A.rel.apart a z (.inr ⟨i, dd, h1, h2⟩)
    · rw [List.getElem?_append_right (by omega)] at h1
      rw [List.getElem?_append_right (by rw [A.len]; omega), A.len] at h2
      exact B.res _ o v h1 h2
  · by_cases hi : i < os.length
    · rw [List.getElem?_append_left hi] at h1
      rw [List.getElem?_append_left (by rw [A.len]; exact hi)] at h2
      exact A.new i d a h1 h2
    · rw [List.getElem?_append_right (by omega)] at h1
      rw [List.getElem?_append_right (by rw [A.len]; omega), A.len] at h2
      have q := B.new _ d a h1 h2
      cases e : H a with
      | none => rfl
      | some o => exact absurd q (A.trk a (by rw [e]; simp))
  · have cross : ∀ {i j : Nat} {d e : D} {a : Addr}, os[i]? = some (.v ⟨true, d⟩) → vs[i]? = some (.ref a) → ps[j]? = some (.v ⟨true, e⟩) → ws[j]? = some (.ref a) → False := fun {i j d e a} q1 q2 q3 q4 =>
      A.rel.trk a (.inr ⟨i, d, q1, q2⟩) (B.new j e a q3 q4)
    by_cases hi : i < os.length <;> by_cases hj : j < os.length
    · rw [List.getElem?_append_left hi] at h1
      rw [List.getElem?_append_left hj] at h2
      rw [List.getElem?_append_left (by rw [A.len]; exact hi)] at h3
      rw [List.getElem?_append_left (by rw [A.len]; exact hj)] at h4
      exact A.two i j d e a h1 h2 h3 h4
    · rw [List.getElem?_append_left hi] at h1
      rw [List.getElem?_append_right (by omega)] at h2
      rw [List.getElem?_append_left (by rw [A.len]; exact hi)] at h3
      rw [List.getElem?_append_right (by rw [A.len]; omega), A.len] at h4
      exact (cross h1 h3 h2 h4).elim
    · rw [List.getElem?_append_right (by omega)] at h1
      rw [List.getElem?_append_left hj] at h2
      rw [List.getElem?_append_right (by rw [A.len]; omega), A.len] at h3
      rw [List.getElem?_append_left (by rw [A.len]; exact hj)] at h4
      exact (cross h2 h4 h1 h3).elim
    · rw [List.getElem?_append_right (by omega)] at h1 h2
      rw [List.getElem?_append_right (by rw [A.len]; omega), A.len] at h3 h4
      have := B.two _ _ d e a h1 h2 h3 h4
      omega
  · exact B.keep a o (A.keep a o e n) fun z => n (OwnA.less A.sub z)
  · obtain ⟨d1, e1⟩ := B.sub i d h
    exact A.sub i d1 e1
  · obtain ⟨c1, e1⟩ := A.bnd i c h
    exact B.bnd i c1 e1
end

/-! ### the judgements -/
/-- behind an exception -/
structure AftX (g : Gh) (ids : List Addr) (S : Sta) (σ : L2.St) (H : Hp) (Z : Addr → Prop) (x : Exn) (cls : Value) (d : Option Addr) (ids' : List Addr) (S' : Sta) (H' : Hp) : Prop where
  rel : Rel g ids' S' σ H' Z
  cls : g.mg x.C = some cls
  pay : (x.fs = [] ∧ d = none) ∨ ∃ p vs, d = some p ∧ H' p = some (.xd vs) ∧ ¬ OA S' σ Z p ∧ RepF g ids' H' (OA S' σ Z) x.fs vs
  keep : Kept H H' (OwnA S σ)
  trk : ∀ a, H a ≠ none → H' a ≠ none
  sub : ∀ (i : Nat) (d : D), S'.sl[i]? = some (some ⟨true, d⟩) → ∃ d0, S.sl[i]? = some (some ⟨true, d0⟩)
  bnd : ∀ (i : Nat) (c : Cell), S.sl[i]? = some (some c) → ∃ c', S'.sl[i]? = some (some c')
  ids : Ids ids ids'
  pin : S'.pin = S.pin

/-- e computes as m -/
def tD (g : Gh) (W : WX) (m : M Opn) : TE := fun σ H Q => ∃ ids S Z, Rel g ids S σ H Z ∧ match m S with
  | .ok o S' => ∀ v H' ids', Aft g ids S σ H Z [o] [v] ids' S' H' → Q v H'
  | .exc x S' => ∀ cls d H' ids', AftX g ids S σ H Z x cls d ids' S' H' → W cls d σ H'
  | .stuck => False
/-- a list of expressions -/
def tDs (g : Gh) (W : WX) (m : M (List Opn)) : TA := fun σ H Q => ∃ ids S Z, Rel g ids S σ H Z ∧ match m S with
  | .ok os S' => ∀ vs H' ids', Aft g ids S σ H Z os vs ids' S' H' → Q vs H'
  | .exc x S' => ∀ cls d H' ids', AftX g ids S σ H Z x cls d ids' S' H' → W cls d σ H'
  | .stuck => False
/-- a test -/
def tDt (g : Gh) (W : WX) (m : M Bool) : TT := fun σ H Q => ∃ ids S Z, Rel g ids S σ H Z ∧ match m S with
  | .ok b S' => ∀ H' ids', Aft g ids S σ H Z [] [] ids' S' H' → Q b H'
  | .exc x S' => ∀ cls d H' ids', AftX g ids S σ H Z x cls d ids' S' H' → W cls d σ H'
  | .stuck => False
/-- what a def's body knows: gh, where an exception goes -/
structure Bd (X : Cx) (g : Gh) (W : WX) : Prop where
  gK : g.K = X.K
  gm : g.mg = X.mg
  tk : Takes X W
def DE (X : Cx) (g : Gh) (W : WX) (e : Expr) (m : M Opn) : Prop := PE X e (tD g W m)
def DA (X : Cx) (g : Gh) (W : WX) (es : List Expr) (m : M (List Opn)) : Prop := PA X es (tDs g W m)
def DT (X : Cx) (g : Gh) (W : WX) (e : Expr) (m : M Bool) : Prop := PT X e (tDt g W m)

theorem pe_imp {X : Cx} {e : Expr} {t t' : TE} (h : PE X e t) (i : ∀ σ H Q, t' σ H Q → t σ H Q) : PE X e t' := ⟨fun pins s σ H Q I q => h.run pins s σ H Q I (i σ H Q q)⟩
theorem pa_imp {X : Cx} {e : List Expr} {t t' : TA} (h : PA X e t) (i : ∀ σ H Q, t' σ H Q → t σ H Q) : PA X e t' := ⟨fun pos pins s σ H Q I q => h.run pos pins s σ H Q I (i σ H Q q)⟩
theorem pt_imp {X : Cx} {e : Expr} {t t' : TT} (h : PT X e t) (i : ∀ σ H Q, t' σ H Q → t σ H Q) : PT X e t' := ⟨fun pins s σ H Q I q => h.run pins s σ H Q I (i σ H Q q)⟩
theorem ps_imp {X : Cx} {e : Stmt} {t t' : TS} (h : PS X e t) (i : ∀ D σ H, t' D σ H → t D σ H) : PS X e t' := ⟨fun pins s σ H D I q => h.run pins s σ H D I (i D σ H q)⟩
theorem pss_imp {X : Cx} {e : List Stmt} {t t' : TS} (h : PSs X e t) (i : ∀ D σ H, t' D σ H → t D σ H) : PSs X e t' := ⟨fun pins s σ H D I q => h.run pins s σ H D I (i D σ H q)⟩

/-- what follows the first operands -/
theorem AftX.behind {g : Gh} {ids ids1 ids2 : List Addr} {S S1 S2 : Sta} {σ : L2.St} {H H1 H2 : Hp} {Z : Addr → Prop} {os : List Opn} {vs : List V} {x : Exn} {cls : Value} {d : Option Addr} (A : Aft g ids S σ H Z os vs ids1 S1 H1)
    (B : AftX g ids1 S1 σ H1 (ZL Z os vs) x cls d ids2 S2 H2) : AftX g ids S σ H Z x cls d ids2 S2 H2 := by
  have gr : Grown H2 (OA S2 σ (ZL Z os vs)) (OA S2 σ Z) := fun a z => .inl (z.elim (fun z => .inl (.inl z)) .inr)
  refine ⟨B.rel.less fun a z => .inl z, B.cls, ?_, fun a o e n => B.keep a o (A.keep a o e n) fun z => n (OwnA.less A.sub z), fun a h => B.trk a (A.trk a h), fun i d h => ?_, fun i c h => ?_, A.ids.trans B.ids, B.pin.trans A.pin⟩
  · rcases B.pay with h | ⟨p, vs, h1, h2, h3, h4⟩
    · exact .inl h
    · exact .inr ⟨p, vs, h1, h2, gr.not (by rw [h2]; simp) h3, h4.mono .refl gr .rfl⟩
  · obtain ⟨d1, e1⟩ := B.sub i d h
    exact A.sub i d1 e1
  · obtain ⟨c1, e1⟩ := A.bnd i c h
    exact B.bnd i c1 e1

/-- m, then f of it -/
theorem tD_bind {g : Gh} {W : WX} {m : M Opn} {f : Opn → M Opn} {σ : L2.St} {H : Hp} {Q : VK} {R : V → Hp → Prop} (h : tD g W (M.bind m f) σ H Q)
    (k : ∀ ids S Z o S1 v H1 ids1, Rel g ids S σ H Z → m S = .ok o S1 → Aft g ids S σ H Z [o] [v] ids1 S1 H1 →
      (match f o S1 with
        | .ok o' S' => ∀ v' H' ids', Aft g ids S σ H Z [o'] [v'] ids' S' H' → Q v' H'
        | .exc x S' => ∀ cls d H' ids', AftX g ids S σ H Z x cls d ids' S' H' → W cls d σ H'
        | .stuck => False) → R v H1) : tD g W m σ H R := by
  obtain ⟨ids, S, Z, r, h⟩ := h
  refine ⟨ids, S, Z, r, ?_⟩
  unfold M.bind at h
  cases e : m S with
  | ok o S1 =>
    rw [e] at h
    exact fun v H1 ids1 A => k ids S Z o S1 v H1 ids1 r e A h
  | exc x S1 =>
    rw [e] at h
    exact h
  | stuck =>
    rw [e] at h
    exact h
end Ov


set_option Elab.async false
set_option linter.all false
set_option maxRecDepth 100000
set_option maxHeartbeats 4000000
namespace Ov
open PySem PySem.Spec PyProof.Rows L2

/-! ### reading an operand -/
def curC (S : Sta) : Opn → Option Cell
  | .v c => some c
  | .s i => S.sl[i]?.join
def curD (S : Sta) (o : Opn) : Option D := (curC S o).map (·.d)
/-- what v is, of content d; its items apart from O -/
def Look (g : Gh) (ids : List Addr) (H : Hp) (O : Addr → Prop) : D → V → Prop
  | .non, v => v = .non
  | .bl b, v => v = .bl b
  | .int i, v => v = .int i
  | .str x, v => v = .str x
  | .op u, v => v = u
  | .cls C, v => ∃ c, v = .ref c ∧ g.mg C = some (.ref c)
  | .tup ds, v => ∃ a xs, v = .ref a ∧ H a = some (.tup xs) ∧ RepL g ids H O ds xs
  | .lst ds, v => ∃ a xs, v = .ref a ∧ H a = some (.lst xs) ∧ RepL g ids H O ds xs
  | .ins n C fs, v => ∃ a c dx vs, v = .ref a ∧ ids[n]? = some a ∧ g.mg C = some (.ref c) ∧ H a = some (.ins c dx vs) ∧ RepF g ids H O fs vs
  | .scr ns, v => ∃ a, v = .ref a ∧ SqL g.K H a (ns.map V.int)
section
variable {g : Gh} {ids ids1 : List Addr} {S S1 : Sta} {σ : L2.St} {H H1 : Hp} {Z O O' : Addr → Prop} {os : List Opn} {vs : List V} {d : D} {v : V} {a : Addr}
theorem Rep.look (h : Rep g ids H O d v) (gr : ∀ a, O' a → O a) : Look g ids H O' d v := by
  have r : ∀ {ds xs}, RepL g ids H O ds xs → RepL g ids H O' ds xs := fun q => q.mono .refl (fun a z => .inl (gr a z)) .rfl
  have r' : ∀ {ds xs}, RepF g ids H O ds xs → RepF g ids H O' ds xs := fun q => q.mono .refl (fun a z => .inl (gr a z)) .rfl
  cases h with
  | non => rfl
  | bl b => rfl
  | int i => rfl
  | str x => rfl
  | op v => rfl
  | cls h => exact ⟨_, rfl, h⟩
  | scr h =>
    refine ⟨_, rfl, ?_⟩
    rcases h with ⟨o, h, _⟩ | h
    · exact .inl (.inr ⟨o, h⟩)
    · exact .inr h
  | tup h ho l q => exact ⟨_, _, rfl, h, r ⟨l, q⟩⟩
  | lst h ho l q => exact ⟨_, _, rfl, h, r ⟨l, q⟩⟩
  | ins hn hC h ho l q => exact ⟨_, _, _, _, rfl, hn, hC, h, r' ⟨l, q⟩⟩
theorem OwnRep.look (h : OwnRep g ids H O d a) (gr : ∀ a, O' a → O a) : Look g ids H O' d (.ref a) := by
  cases d with
  | lst ds => obtain ⟨xs, e, r⟩ := h; exact ⟨a, xs, rfl, e, r.mono .refl (fun a z => .inl (gr a z)) .rfl⟩
  | ins n C fs => obtain ⟨c, dx, vs, e1, e2, e3, r⟩ := h; exact ⟨a, c, dx, vs, rfl, e1, e2, e3, r.mono .refl (fun a z => .inl (gr a z)) .rfl⟩
  | _ => exact h.elim
theorem CellRep.look {c : Cell} (h : CellRep g ids H O c v) (gr : ∀ a, O' a → O a) : Look g ids H O' c.d v := by
  obtain ⟨b, d⟩ := c
  cases b with
  | true =>
    obtain ⟨a, e, r⟩ := h.own
    subst e
    exact r.look gr
  | false => exact h.sh.look gr
theorem ZL.sub {b : Addr} (h : Z b) : ZL Z os vs b := .inl h
theorem OA.sub {b : Addr} (h : OA S σ Z b) : OA S σ (ZL Z os vs) b := h.elim (fun z => .inl (.inl z)) .inr
theorem Aft.look (A : Aft g ids S σ H Z os vs ids1 S1 H1) {i : Nat} {o : Opn} (h1 : os[i]? = some o) (h2 : vs[i]? = some v) (h3 : curD S1 o = some d) : Look g ids1 H1 (OA S1 σ Z) d v := by
  have q := A.res i o v h1 h2
  cases o with
  | v c =>
    have e : c.d = d := Option.some.inj h3
    subst e
    exact CellRep.look (c := c) q fun a z => OA.sub z
  | s j =>
    obtain ⟨q1, c, q2⟩ := q
    have e : c.d = d := by
      have z : (S1.sl[j]?.join).map (·.d) = some d := h3
      rw [q2] at z
      exact Option.some.inj z
    subst e
    obtain ⟨v', e1, e2⟩ := A.rel.rep j c q2
    rw [q1] at e1
    have e3 : v = v' := Option.some.inj (Option.some.inj e1)
    subst e3
    exact e2.look fun a z => OA.sub z

/-- a new value, from the heap H -/
inductive Made (g : Gh) (ids : List Addr) (H : Hp) (O : Addr → Prop) : Cell → V → Hp → Prop
  | val {d : D} {v : V} (h : Rep g ids H O d v) : Made g ids H O ⟨false, d⟩ v H
  | lst {p : Addr} {ds : List D} {xs : List V} (hp : H p = none) (h : RepL g ids H O ds xs) : Made g ids H O ⟨true, .lst ds⟩ (.ref p) (upd H p (.lst xs))
  | tup {p : Addr} {ds : List D} {xs : List V} (hp : H p = none) (h : RepL g ids H O ds xs) : Made g ids H O ⟨false, .tup ds⟩ (.ref p) (upd H p (.tup xs))
theorem upd_kept {p : Addr} {o : HO} (hp : H p = none) {O : Addr → Prop} : Kept H (upd H p o) O := fun a u e _ => by
  rw [upd_ne (fun z => by rw [z, hp] at e; cases e)]; exact e
theorem upd_trk {p : Addr} {o : HO} (h : H a ≠ none) : upd H p o a ≠ none := by
  unfold upd
  split
  · simp
  · exact h
/-- a new object is laid -/
theorem Rel.laid (r : Rel g ids S σ H Z) {p : Addr} (o : HO) (hp : H p = none) : Rel g ids S σ (upd H p o) Z := by
  refine ⟨r.len, fun i c e => ?_, r.inj, r.apart, fun a z => upd_trk (r.trk a z), r.cnt, r.nd, fun a h => upd_trk (r.idt a h)⟩
  obtain ⟨v, e1, e2⟩ := r.rep i c e
  exact ⟨v, e1, e2.mono (fun _ a u _ q => upd_kept hp (O := fun _ => False) a u q id) (upd_kept hp) (fun a z => .inl z) .rfl⟩
theorem Rel.ownTrk (r : Rel g ids S σ H Z) (h : OwnA S σ a) : H a ≠ none := by
  obtain ⟨i, d, e1, e2⟩ := h
  obtain ⟨v, e3, e4⟩ := r.rep i _ e1
  obtain ⟨b, e5, e6⟩ := e4.own
  rw [e2] at e3
  have e7 : V.ref a = v := Option.some.inj (Option.some.inj e3)
  rw [e5] at e7
  cases e7
  exact e6.some
/-- .. and protected from here on -/
theorem Rel.laidZ (r : Rel g ids S σ H Z) {p : Addr} (o : HO) (hp : H p = none) {Z' : Addr → Prop} (hZ : ∀ a, Z' a → Z a ∨ a = p) : Rel g ids S σ (upd H p o) Z' := by
  refine ⟨r.len, fun i c e => ?_, r.inj, fun a ow z => ?_, fun a z => ?_, r.cnt, r.nd, fun a h => upd_trk (r.idt a h)⟩
  · obtain ⟨v, e1, e2⟩ := r.rep i c e
    refine ⟨v, e1, e2.mono (fun _ a u _ q => upd_kept hp (O := fun _ => False) a u q id) (upd_kept hp) (fun a z => ?_) .rfl⟩
    rcases z with z | z
    · rcases hZ a z with z | z
      · exact .inl (.inl z)
      · subst z; exact .inr hp
    · exact .inl (.inr z)
  · rcases hZ a z with z | z
    · exact r.apart a ow z
    · subst z; exact r.ownTrk ow hp
  · rcases hZ a z with z | z
    · exact upd_trk (r.trk a z)
    · subst z; rw [upd_same]; simp

/-- the operands are done with; a value has come of them -/
theorem Aft.made (A : Aft g ids S σ H Z os vs ids1 S1 H1) {c : Cell} {H' : Hp} (m : Made g ids1 H1 (OA S1 σ Z) c v H') : Aft g ids S σ H Z [.v c] [v] ids1 S1 H' := by
  have r0 : Rel g ids1 S1 σ H1 Z := A.rel.less fun a z => .inl z
  have new0 : ∀ {p : Addr}, H1 p = none → H p = none := fun {p} hp => by
    cases e : H p with
    | none => rfl
    | some o => exact absurd hp (A.trk p (by rw [e]; simp))
  cases m with
  | val h =>
    rename_i d
    have ez : ZL Z [.v ⟨false, d⟩] [v] = Z := by
      funext b
      refine propext ⟨fun z => z.elim id ?_, .inl⟩
      rintro ⟨i, d', h1, h2⟩
      cases i with
      | zero => cases h1
      | succ i => simp at h1
    refine ⟨by rw [ez]; exact r0, rfl, fun i o w h1 h2 => ?_, fun i d' a h1 => ?_, fun i j d' e a h1 => ?_, A.keep, A.trk, A.sub, A.bnd, A.ids, A.pin⟩
    · cases i with
      | zero =>
        cases h1
        cases h2
        rw [ez]
        exact h
      | succ i => simp at h1
    · cases i with
      | zero => cases h1
      | succ i => simp at h1
    · cases i with
      | zero => cases h1
      | succ i => simp at h1
  | lst hp h =>
    rename_i p ds xs
    have hz : ∀ a, ZL Z [.v ⟨true, .lst ds⟩] [.ref p] a → Z a ∨ a = p := by
      rintro a (z | ⟨i, d', h1, h2⟩)
      · exact .inl z
      · cases i with
        | zero => cases h2; exact .inr rfl
        | succ i => simp at h1
    refine ⟨r0.laidZ _ hp hz, rfl, fun i o w h1 h2 => ?_, fun i d' a h1 h2 => ?_, fun i j d' e a h1 h2 _ _ => ?_, fun a o e n => upd_kept hp (O := fun _ => False) a o (A.keep a o e n) id, fun a h => upd_trk (A.trk a h), A.sub, A.bnd, A.ids, A.pin⟩
    · cases i with
      | zero =>
        cases h1
        cases h2
        refine ⟨p, rfl, xs, upd_same, h.mono (upd_kept hp) (fun a z => ?_) .rfl⟩
        rcases z with z | z
        · rcases hz a z with z | z
          · exact .inl (.inl z)
          · subst z; exact .inr hp
        · exact .inl (.inr z)
      | succ i => simp at h1
    · cases i with
      | zero => cases h2; exact new0 hp
      | succ i => simp at h1
    · cases i with
      | zero =>
        cases j with
        | zero => rfl
        | succ j => simp at h2
      | succ i => simp at h1
  | tup hp h =>
    rename_i p ds xs
    have ez : ZL Z [.v ⟨false, .tup ds⟩] [.ref p] = Z := by
      funext b
      refine propext ⟨fun z => z.elim id ?_, .inl⟩
      rintro ⟨i, d', h1, h2⟩
      cases i with
      | zero => cases h1
      | succ i => simp at h1
    have np : ¬ OA S1 σ Z p := fun z => z.elim (fun z => r0.trk p z hp) fun z => r0.ownTrk z hp
    refine ⟨by rw [ez]; exact r0.laid _ hp, rfl, fun i o w h1 h2 => ?_, fun i d' a h1 => ?_, fun i j d' e a h1 => ?_, fun a o e n => upd_kept hp (O := fun _ => False) a o (A.keep a o e n) id, fun a h => upd_trk (A.trk a h), A.sub, A.bnd, A.ids, A.pin⟩
    · cases i with
      | zero =>
        cases h1
        cases h2
        rw [ez]
        have h' := h.mono (upd_kept (o := .tup xs) hp) (O' := OA S1 σ Z) (fun a z => .inl z) .rfl
        exact .tup upd_same np h'.1 h'.2
      | succ i => simp at h1
    · cases i with
      | zero => cases h1
      | succ i => simp at h1
    · cases i with
      | zero => cases h1
      | succ i => simp at h1
end

/-! ### operators that only read -/
def pure1 (F : D → Option Cell) (o : Opn) : M Opn := fun S => match (curD S o).bind F with
  | some c => .ok (.v c) S
  | none => .stuck
def pure2 (F : D → D → Option Cell) (o p : Opn) : M Opn := fun S => match (curD S o).bind fun d => (curD S p).bind fun e => F d e with
  | some c => .ok (.v c) S
  | none => .stuck
def pureN (F : List D → Option Cell) (os : List Opn) : M Opn := fun S => match (os.mapM (curD S)).bind F with
  | some c => .ok (.v c) S
  | none => .stuck
def Pure1 (g : Gh) (r : V → Hp → VK → Prop) (F : D → Option Cell) : Prop :=
  ∀ ids H O d v c Q, Look g ids H O d v → F d = some c → (∀ v' H', Made g ids H O c v' H' → Q v' H') → r v H Q
def Pure2 (g : Gh) (r : R2) (F : D → D → Option Cell) : Prop :=
  ∀ ids H O d e v w c Q, Look g ids H O d v → Look g ids H O e w → F d e = some c → (∀ v' H', Made g ids H O c v' H' → Q v' H') → r v w H Q
def Looks (g : Gh) (ids : List Addr) (H : Hp) (O : Addr → Prop) (ds : List D) (vs : List V) : Prop := Paired (Look g ids H O) ds vs
def PureN (g : Gh) (r : List V → Hp → VK → Prop) (F : List D → Option Cell) : Prop :=
  ∀ ids H O ds vs c Q, Looks g ids H O ds vs → F ds = some c → (∀ v' H', Made g ids H O c v' H' → Q v' H') → r vs H Q
theorem Pure2.or {g : Gh} {r r' : R2} {F F' : D → D → Option Cell} (h : Pure2 g r F) (h' : Pure2 g r' F') : Pure2 g (fun x y H Q => r x y H Q ∨ r' x y H Q) (fun d e => (F d e).or (F' d e)) := by
  intro ids H O d e v w c Q l1 l2 f q
  cases k : F d e with
  | some c' =>
    simp only [k, Option.some_or] at f
    exact .inl (h ids H O d e v w c Q l1 l2 (by rw [k]; exact f) q)
  | none =>
    simp only [k, Option.none_or] at f
    exact .inr (h' ids H O d e v w c Q l1 l2 f q)
theorem opR_or {X : Cx} {f : Value → Value → Sem Value} {r r' : R2} (h : OpR X f r) (h' : OpR X f r') : OpR X f (fun x y H Q => r x y H Q ∨ r' x y H Q) := by
  intro pins s σ H x y v u Q I rx ry q
  exact q.elim (h pins s σ H x y v u Q I rx ry) (h' pins s σ H x y v u Q I rx ry)

def m1 (a : M Opn) (f : Opn → M Opn) : M Opn := M.bind a f
def m2 (a b : M Opn) (f : Opn → Opn → M Opn) : M Opn := M.bind a fun x => M.bind b fun y => f x y
section
variable {g : Gh} {W : WX} {ma mb : M Opn} {σ : L2.St} {H : Hp} {Q : VK}
/-- what the rest of an evaluation asks -/
def Wp (g : Gh) (W : WX) (ids : List Addr) (S : Sta) (σ : L2.St) (H : Hp) (Z : Addr → Prop) (Q : VK) : Res Opn → Prop
  | .ok o S' => ∀ v H' ids', Aft g ids S σ H Z [o] [v] ids' S' H' → Q v H'
  | .exc x S' => ∀ cls d H' ids', AftX g ids S σ H Z x cls d ids' S' H' → W cls d σ H'
  | .stuck => False
theorem tD_wp {m : M Opn} : tD g W m σ H Q ↔ ∃ ids S Z, Rel g ids S σ H Z ∧ Wp g W ids S σ H Z Q (m S) := by
  constructor
  · rintro ⟨ids, S, Z, r, h⟩
    refine ⟨ids, S, Z, r, ?_⟩
    cases e : m S <;> rw [e] at h <;> exact h
  · rintro ⟨ids, S, Z, r, h⟩
    refine ⟨ids, S, Z, r, ?_⟩
    cases e : m S <;> rw [e] at h <;> exact h
/-- a first operand, behind others -/
theorem tD_step {ids ids1 : List Addr} {S S1 : Sta} {H1 : Hp} {Z : Addr → Prop} {os : List Opn} {vs : List V} {f : Opn → M Opn} {R : V → Hp → Prop} (A : Aft g ids S σ H Z os vs ids1 S1 H1)
    (h : Wp g W ids S σ H Z Q (M.bind ma f S1)) (k : ∀ o v S2 H2 ids2, Aft g ids S σ H Z (os ++ [o]) (vs ++ [v]) ids2 S2 H2 → Wp g W ids S σ H Z Q (f o S2) → R v H2) : tD g W ma σ H1 R := by
  refine tD_wp.mpr ⟨ids1, S1, _, A.rel, ?_⟩
  unfold M.bind at h
  cases e : ma S1 with
  | ok o S2 =>
    rw [e] at h
    exact fun v H2 ids2 B => k o v S2 H2 ids2 (A.append B) h
  | exc x S2 =>
    rw [e] at h
    exact fun cls d H2 ids2 B => h cls d H2 ids2 (AftX.behind A B)
  | stuck =>
    rw [e] at h
    exact h
theorem tD_first {ids : List Addr} {S : Sta} {Z : Addr → Prop} {f : Opn → M Opn} {R : V → Hp → Prop} (r : Rel g ids S σ H Z)
    (h : Wp g W ids S σ H Z Q (M.bind ma f S)) (k : ∀ o v S2 H2 ids2, Aft g ids S σ H Z [o] [v] ids2 S2 H2 → Wp g W ids S σ H Z Q (f o S2) → R v H2) : tD g W ma σ H R :=
  tD_step (os := []) (vs := []) (Aft.nil r) h k
end

section
variable {X : Cx} {g : Gh} {W : WX} {a b c : Expr} {ma mb mc : M Opn} {pos : Pos}
theorem wp_pure2 {ids ids1 : List Addr} {S S1 : Sta} {σ : L2.St} {H H1 : Hp} {Z : Addr → Prop} {o p : Opn} {x y : V} {r : R2} {F : D → D → Option Cell} {Q : VK} (hp : Pure2 g r F) (A : Aft g ids S σ H Z [o, p] [x, y] ids1 S1 H1)
    (h : Wp g W ids S σ H Z Q (pure2 F o p S1)) : r x y H1 Q := by
  unfold pure2 at h
  cases e1 : curD S1 o with
  | none => rw [e1] at h; exact h.elim
  | some d =>
    cases e2 : curD S1 p with
    | none => rw [e1, e2] at h; exact h.elim
    | some e =>
      rw [e1, e2] at h
      simp only [Option.bind_some] at h
      cases e3 : F d e with
      | none => rw [e3] at h; exact h.elim
      | some c =>
        rw [e3] at h
        exact hp ids1 H1 _ d e x y c Q (A.look (i := 0) rfl rfl e1) (A.look (i := 1) rfl rfl e2) e3 fun v' H' m => h v' H' ids1 (A.made m)
theorem wp_pure1 {ids ids1 : List Addr} {S S1 : Sta} {σ : L2.St} {H H1 : Hp} {Z : Addr → Prop} {o : Opn} {x : V} {r : V → Hp → VK → Prop} {F : D → Option Cell} {Q : VK} (hp : Pure1 g r F) (A : Aft g ids S σ H Z [o] [x] ids1 S1 H1)
    (h : Wp g W ids S σ H Z Q (pure1 F o S1)) : r x H1 Q := by
  unfold pure1 at h
  cases e1 : curD S1 o with
  | none => rw [e1] at h; exact h.elim
  | some d =>
    rw [e1] at h
    simp only [Option.bind_some] at h
    cases e3 : F d with
    | none => rw [e3] at h; exact h.elim
    | some c =>
      rw [e3] at h
      exact hp ids1 H1 _ d x c Q (A.look (i := 0) rfl rfl e1) e3 fun v' H' m => h v' H' ids1 (A.made m)
/-- a tree of two operands whose operator only reads -/
theorem t_op {r : R2} {F : D → D → Option Cell} (hp : Pure2 g r F) (σ : L2.St) (H : Hp) (Q : VK) (h : tD g W (m2 ma mb (pure2 F)) σ H Q) : tOp r (tD g W ma) (tD g W mb) σ H Q := by
  obtain ⟨ids, S, Z, rl, h⟩ := tD_wp.mp h
  refine tD_first rl h fun o v S1 H1 ids1 A h1 => ?_
  exact tD_step A h1 fun p w S2 H2 ids2 B h2 => wp_pure2 hp B h2
theorem de_bin {op : Operator} {r : R2} {F : D → D → Option Cell} (ho : OpR X (binaryOp op) r) (hp : Pure2 g r F) (ha : DE X g W a ma) (hb : DE X g W b mb) : DE X g W (.BinOp a op b pos) (m2 ma mb (pure2 F)) :=
  pe_imp (pe_op ho ha hb) (t_op hp)
theorem de_cmp {op : CmpOp} {r : R2} {F : D → D → Option Cell} (ho : OpR X (compareOp op) r) (hp : Pure2 g r F) (ha : DE X g W a ma) (hb : DE X g W b mb) (hm : behindInMarks op b = false) : DE X g W (.Compare a [op] [b] pos) (m2 ma mb (pure2 F)) :=
  pe_imp (pe_cmpR ho ha hb hm) (t_op hp)
theorem de_un {op : UnaryOp} {r : V → Hp → VK → Prop} {F : D → Option Cell} (ho : UnR X (unaryOp op) r) (hp : Pure1 g r F) (ha : DE X g W a ma) : DE X g W (.UnaryOp op a pos) (m1 ma (pure1 F)) :=
  pe_imp (pe_un ho ha) fun σ H Q h => by
    obtain ⟨ids, S, Z, rl, h⟩ := tD_wp.mp h
    exact tD_first rl h fun o v S1 H1 ids1 A h1 => wp_pure1 hp A h1
theorem de_ix {r : R2} {F : D → D → Option Cell} (ho : IxR X r) (hp : Pure2 g r F) (ha : DE X g W a ma) (hb : DE X g W b mb) (hs : PlainIx b) : DE X g W (.Subscript a b pos) (m2 ma mb (pure2 F)) :=
  pe_imp (pe_ix ho ha hb hs) (t_op hp)
end
end Ov


set_option Elab.async false
set_option linter.all false
set_option maxRecDepth 100000
set_option maxHeartbeats 4000000
namespace Ov
open PySem PySem.Spec PyProof.Rows L2

section
variable {g : Gh} {W : WX} {ids ids1 : List Addr} {S S1 : Sta} {σ : L2.St} {H H1 : Hp} {Z : Addr → Prop} {os : List Opn} {vs : List V} {Q : VK} {ma mb : M Opn}
/-- the operands are let go -/
theorem Aft.drop (A : Aft g ids S σ H Z os vs ids1 S1 H1) : Aft g ids S σ H Z [] [] ids1 S1 H1 := by
  refine ⟨by rw [ZL.nil]; exact A.rel.less fun a z => .inl z, rfl, fun i o v e => by simp at e, fun i d a e => by simp at e, fun i j d e a h => by simp at h, A.keep, A.trk, A.sub, A.bnd, A.ids, A.pin⟩
theorem tD_last {m : M Opn} (A : Aft g ids S σ H Z [] [] ids1 S1 H1) (h : Wp g W ids S σ H Z Q (m S1)) : tD g W m σ H1 Q := by
  refine tD_wp.mpr ⟨ids1, S1, _, A.rel, ?_⟩
  cases e : m S1 with
  | ok o S2 =>
    rw [e] at h
    exact fun v H2 ids2 B => h v H2 ids2 (A.append B)
  | exc x S2 =>
    rw [e] at h
    exact fun cls d H2 ids2 B => h cls d H2 ids2 (AftX.behind A B)
  | stuck =>
    rw [e] at h
    exact h
/-- tests -/
def WpB (g : Gh) (W : WX) (ids : List Addr) (S : Sta) (σ : L2.St) (H : Hp) (Z : Addr → Prop) (Q : Bool → Hp → Prop) : Res Bool → Prop
  | .ok b S' => ∀ H' ids', Aft g ids S σ H Z [] [] ids' S' H' → Q b H'
  | .exc x S' => ∀ cls d H' ids', AftX g ids S σ H Z x cls d ids' S' H' → W cls d σ H'
  | .stuck => False
theorem tDt_wp {m : M Bool} {Q : Bool → Hp → Prop} : tDt g W m σ H Q ↔ ∃ ids S Z, Rel g ids S σ H Z ∧ WpB g W ids S σ H Z Q (m S) := by
  constructor
  · rintro ⟨ids, S, Z, r, h⟩
    refine ⟨ids, S, Z, r, ?_⟩
    cases e : m S <;> rw [e] at h <;> exact h
  · rintro ⟨ids, S, Z, r, h⟩
    refine ⟨ids, S, Z, r, ?_⟩
    cases e : m S <;> rw [e] at h <;> exact h
theorem tDt_last {m : M Bool} {Q : Bool → Hp → Prop} (A : Aft g ids S σ H Z [] [] ids1 S1 H1) (h : WpB g W ids S σ H Z Q (m S1)) : tDt g W m σ H1 Q := by
  refine tDt_wp.mpr ⟨ids1, S1, _, A.rel, ?_⟩
  cases e : m S1 with
  | ok o S2 =>
    rw [e] at h
    exact fun H2 ids2 B => h H2 ids2 (A.append B)
  | exc x S2 =>
    rw [e] at h
    exact fun cls d H2 ids2 B => h cls d H2 ids2 (AftX.behind A B)
  | stuck =>
    rw [e] at h
    exact h
/-- an expression's value, then a test's rest -/
theorem tD_firstB {f : Opn → M Bool} {R : V → Hp → Prop} {Q : Bool → Hp → Prop} (r : Rel g ids S σ H Z)
    (h : WpB g W ids S σ H Z Q (M.bind ma f S)) (k : ∀ o v S2 H2 ids2, Aft g ids S σ H Z [o] [v] ids2 S2 H2 → WpB g W ids S σ H Z Q (f o S2) → R v H2) : tD g W ma σ H R := by
  refine tD_wp.mpr ⟨ids, S, Z, r, ?_⟩
  unfold M.bind at h
  cases e : ma S with
  | ok o S2 =>
    rw [e] at h
    exact fun v H2 ids2 B => k o v S2 H2 ids2 B h
  | exc x S2 =>
    rw [e] at h
    exact h
  | stuck =>
    rw [e] at h
    exact h
/-- a test, then an expression's rest -/
theorem tDt_first {mc : M Bool} {f : Bool → M Opn} {R : Bool → Hp → Prop} (r : Rel g ids S σ H Z)
    (h : Wp g W ids S σ H Z Q (M.bind mc f S)) (k : ∀ b S2 H2 ids2, Aft g ids S σ H Z [] [] ids2 S2 H2 → Wp g W ids S σ H Z Q (f b S2) → R b H2) : tDt g W mc σ H R := by
  refine tDt_wp.mpr ⟨ids, S, Z, r, ?_⟩
  unfold M.bind at h
  cases e : mc S with
  | ok o S2 =>
    rw [e] at h
    exact fun H2 ids2 B => k o S2 H2 ids2 B h
  | exc x S2 =>
    rw [e] at h
    exact h
  | stuck =>
    rw [e] at h
    exact h
theorem tDt_firstB {mc : M Bool} {f : Bool → M Bool} {R Q : Bool → Hp → Prop} (r : Rel g ids S σ H Z)
    (h : WpB g W ids S σ H Z Q (M.bind mc f S)) (k : ∀ b S2 H2 ids2, Aft g ids S σ H Z [] [] ids2 S2 H2 → WpB g W ids S σ H Z Q (f b S2) → R b H2) : tDt g W mc σ H R := by
  refine tDt_wp.mpr ⟨ids, S, Z, r, ?_⟩
  unfold M.bind at h
  cases e : mc S with
  | ok o S2 =>
    rw [e] at h
    exact fun H2 ids2 B => k o S2 H2 ids2 B h
  | exc x S2 =>
    rw [e] at h
    exact h
  | stuck =>
    rw [e] at h
    exact h
end

/-! ### atoms -/
def mSlot (i : Nat) : M Opn := fun S => match S.sl[i]? with
  | some (some _) => .ok (.s i) S
  | _ => .stuck
def mVal (d : D) : M Opn := fun S => .ok (.v ⟨false, d⟩) S
/-- data that no heap bears -/
def flat : D → Bool
  | .non | .bl _ | .int _ | .str _ | .op _ => true
  | _ => false
def vOf : D → V
  | .bl b => .bl b
  | .int i => .int i
  | .str x => .str x
  | .op v => v
  | _ => .non
theorem rep_flat {g : Gh} {ids : List Addr} {H : Hp} {O : Addr → Prop} {d : D} (h : flat d = true) : Rep g ids H O d (vOf d) := by
  cases d with
  | non => exact .non
  | bl b => exact .bl b
  | int i => exact .int i
  | str x => exact .str x
  | op v => exact .op v
  | _ => cases h
section
variable {X : Cx} {g : Gh} {W : WX} {a b c : Expr} {ma mb mc : M Opn} {pos : Pos}
theorem t_val {d : D} (h : flat d = true) (σ : L2.St) (H : Hp) (Q : VK) (q : tD g W (mVal d) σ H Q) : tC (vOf d) σ H Q := by
  obtain ⟨ids, S, Z, r, q⟩ := q
  exact q _ H ids ((Aft.nil r).made (.val (rep_flat h)))
theorem de_int {i : Int} {j : Nat} : DE X g W (.Constant (.int i) j pos) (mVal (.int i)) := pe_imp pe_int (t_val rfl)
theorem de_bl {b : Bool} {j : Nat} : DE X g W (.Constant (.bool b) j pos) (mVal (.bl b)) := pe_imp pe_bl (t_val rfl)
theorem de_non {j : Nat} : DE X g W (.Constant .none j pos) (mVal .non) := pe_imp pe_non (t_val (d := .non) rfl)
theorem de_str {x : Str} {j : Nat} : DE X g W (.Constant (.str x) j pos) (mVal (.str x)) := pe_imp pe_str (t_val rfl)
theorem de_glob {x : Str} {d : D} (hg : Gl X x) (h : ∃ u, X.mg x = some u ∧ RelV (vOf d) u) (hf : flat d = true := by rfl) (hd : (x == ("__debug__" : Str)) = false := by decide) : DE X g W (.Name x pos) (mVal d) := by
  obtain ⟨u, h1, h2⟩ := h
  exact pe_imp (pe_glob hg h1 h2 hd) (t_val hf)
theorem de_bltn {x : Str} {u : Value} {d : D} (hg : Gl X x) (hm : X.mg x = none) (hv : bootBuiltins x = some u) (hr : RelV (vOf d) u) (hf : flat d = true := by rfl) (hn : x ≠ "__name__" := by decide) (hd : (x == ("__debug__" : Str)) = false := by decide) :
    DE X g W (.Name x pos) (mVal d) := pe_imp (pe_bltn hg hm hv hr hn hd) (t_val hf)
theorem de_var (i : Nat) {x : Str} (hN : X.N[i]? = some x) (hv : Vis X.env.scope x) (hd : (x == ("__debug__" : Str)) = false := by decide) (hcd : (x == ("__classdict__" : Str)) = false := by decide) :
    DE X g W (.Name x pos) (mSlot i) := by
  refine pe_imp (pe_var hN hv hd hcd) fun σ H Q q => ?_
  obtain ⟨ids, S, Z, r, q⟩ := q
  unfold mSlot at q
  split at q
  · rename_i o S' e
    split at e
    · rename_i c hc
      cases e
      obtain ⟨v, e1, e2⟩ := r.rep i c hc
      refine ⟨v, e1, q v H ids ?_⟩
      have ez : ZL Z [.s i] [v] = Z := by
        funext b
        refine propext ⟨fun z => z.elim id ?_, .inl⟩
        rintro ⟨k, d', h1, h2⟩
        cases k with
        | zero => cases h1
        | succ k => simp at h1
      refine ⟨by rw [ez]; exact r, rfl, fun k o w h1 h2 => ?_, fun k d a h1 => ?_, fun k j d e a h1 => ?_, .refl, fun _ h => h, fun k d h => ⟨d, h⟩, fun k c h => ⟨c, h⟩, .rfl, rfl⟩
      · cases k with
        | zero =>
          cases h1
          cases h2
          exact ⟨e1, c, hc⟩
        | succ k => simp at h1
      · cases k with
        | zero => cases h1
        | succ k => simp at h1
      · cases k with
        | zero => cases h1
        | succ k => simp at h1
    · cases e
  · rename_i e
    split at e <;> cases e
  · exact q.elim

/-! ### truth -/
def dTru : D → Option Bool
  | .non => some false
  | .bl b => some b
  | .int i => some (i != 0)
  | .str y => if y.length ≤ sizeLine then some ((y.length : Int) != 0) else none
  | .lst ds => some (!ds.isEmpty)
  | .tup ds => some (!ds.isEmpty)
  | .scr ns => some (!ns.isEmpty)
  | _ => none
theorem isEmpty_len {α β : Type} {xs : List α} {ys : List β} (h : xs.length = ys.length) : xs.isEmpty = ys.isEmpty := by
  cases xs <;> cases ys <;> simp at h <;> rfl
theorem tru_look {ids : List Addr} {H : Hp} {O : Addr → Prop} {d : D} {v : V} {k : Bool} (l : Look g ids H O d v) (h : dTru d = some k) : TruV g.K v H k := by
  cases d with
  | non => cases l; cases h; rfl
  | bl b => cases l; cases h; rfl
  | int i => cases l; cases h; rfl
  | str y =>
    cases l
    have h' : (if y.length ≤ sizeLine then some ((y.length : Int) != 0) else none) = some k := h
    by_cases hy : y.length ≤ sizeLine
    · rw [if_pos hy] at h'
      cases h'
      exact ⟨hy, rfl⟩
    · rw [if_neg hy] at h'
      cases h'
  | lst ds =>
    obtain ⟨a, xs, rfl, e, r⟩ := l
    cases h
    exact .inl ⟨xs, .of e, by rw [isEmpty_len r.1]⟩
  | tup ds =>
    obtain ⟨a, xs, rfl, e, r⟩ := l
    cases h
    exact .inr (.inl ⟨xs, .of e, by rw [isEmpty_len r.1]⟩)
  | scr ns =>
    obtain ⟨a, rfl, e⟩ := l
    cases h
    exact .inl ⟨_, e, by cases ns <;> rfl⟩
  | _ => cases h
def truM (o : Opn) : M Bool := fun S => match (curD S o).bind dTru with
  | some b => .ok b S
  | none => .stuck
def mAnd (ma mb : M Opn) : M Opn := M.bind ma fun o => M.bind (truM o) fun b => if b = true then mb else M.ret o
def mOr (ma mb : M Opn) : M Opn := M.bind ma fun o => M.bind (truM o) fun b => if b = true then M.ret o else mb
def mNot (ma : M Opn) : M Opn := M.bind ma fun o => M.bind (truM o) fun b => mVal (.bl (!b))
theorem wp_tru {ids ids1 : List Addr} {S S1 : Sta} {σ : L2.St} {H H1 : Hp} {Z : Addr → Prop} {o : Opn} {x : V} {f : Bool → M Opn} {Q : VK} (A : Aft g ids S σ H Z [o] [x] ids1 S1 H1)
    (h : Wp g W ids S σ H Z Q (M.bind (truM o) f S1)) : ∃ b, TruV g.K x H1 b ∧ Wp g W ids S σ H Z Q (f b S1) := by
  unfold M.bind truM at h
  cases e1 : curD S1 o with
  | none => rw [e1] at h; exact h.elim
  | some d =>
    rw [e1] at h
    simp only [Option.bind_some] at h
    cases e2 : dTru d with
    | none => rw [e2] at h; exact h.elim
    | some b =>
      rw [e2] at h
      exact ⟨b, tru_look (A.look (i := 0) rfl rfl e1) e2, h⟩
theorem wp_truB {ids ids1 : List Addr} {S S1 : Sta} {σ : L2.St} {H H1 : Hp} {Z : Addr → Prop} {o : Opn} {x : V} {Q : Bool → Hp → Prop} (A : Aft g ids S σ H Z [o] [x] ids1 S1 H1)
    (h : WpB g W ids S σ H Z Q (truM o S1)) : ∃ b, TruV g.K x H1 b ∧ Q b H1 := by
  unfold truM at h
  cases e1 : curD S1 o with
  | none => rw [e1] at h; exact h.elim
  | some d =>
    rw [e1] at h
    simp only [Option.bind_some] at h
    cases e2 : dTru d with
    | none => rw [e2] at h; exact h.elim
    | some b =>
      rw [e2] at h
      exact ⟨b, tru_look (A.look (i := 0) rfl rfl e1) e2, h H1 ids1 A.drop⟩
theorem de_and {rest : List Expr} (B : g.K = X.K) (ha : DE X g W a ma) (hb : DE X g W (.BoolOp .And (b :: rest) pos) mb) : DE X g W (.BoolOp .And (a :: b :: rest) pos) (mAnd ma mb) := by
  refine pe_imp (pe_andT ha hb) fun σ H Q q => ?_
  obtain ⟨ids, S, Z, r, q⟩ := tD_wp.mp q
  refine tD_first r q fun o v S1 H1 ids1 A q1 => ?_
  obtain ⟨k, t, q2⟩ := wp_tru A q1
  refine ⟨k, B ▸ t, ?_⟩
  cases k with
  | true => exact tD_last A.drop q2
  | false => exact q2 v H1 ids1 A
theorem de_or {rest : List Expr} (B : g.K = X.K) (ha : DE X g W a ma) (hb : DE X g W (.BoolOp .Or (b :: rest) pos) mb) : DE X g W (.BoolOp .Or (a :: b :: rest) pos) (mOr ma mb) := by
  refine pe_imp (pe_orT ha hb) fun σ H Q q => ?_
  obtain ⟨ids, S, Z, r, q⟩ := tD_wp.mp q
  refine tD_first r q fun o v S1 H1 ids1 A q1 => ?_
  obtain ⟨k, t, q2⟩ := wp_tru A q1
  refine ⟨k, B ▸ t, ?_⟩
  cases k with
  | true => exact q2 v H1 ids1 A
  | false => exact tD_last A.drop q2
theorem de_one {op : BoolOp} (ha : DE X g W a ma) : DE X g W (.BoolOp op [a] pos) ma := pe_one ha
theorem de_not (B : g.K = X.K) (ha : DE X g W a ma) : DE X g W (.UnaryOp .Not a pos) (mNot ma) := by
  refine pe_imp (pe_notT ha) fun σ H Q q => ?_
  obtain ⟨ids, S, Z, r, q⟩ := tD_wp.mp q
  refine tD_first r q fun o v S1 H1 ids1 A q1 => ?_
  obtain ⟨k, t, q2⟩ := wp_tru A q1
  exact ⟨k, B ▸ t, q2 _ H1 ids1 (A.made (.val (.bl _)))⟩
/-! ### tests -/
def mTest (m : M Opn) : M Bool := M.bind m fun o S => match curD S o with
  | some (.bl b) => .ok b S
  | _ => .stuck
def mTru (m : M Opn) : M Bool := M.bind m truM
def bAnd (ma mb : M Bool) : M Bool := M.bind ma fun b => if b = true then mb else M.ret false
def bOr (ma mb : M Bool) : M Bool := M.bind ma fun b => if b = true then M.ret true else mb
def bNot (ma : M Bool) : M Bool := M.bind ma fun b => M.ret (!b)
def mIf (mc : M Bool) (ma mb : M Opn) : M Opn := M.bind mc fun b => if b = true then ma else mb
theorem t_test {m : M Opn} {t : TE} (ht : ∀ σ H Q, tD g W m σ H Q → t σ H Q) (σ : L2.St) (H : Hp) (Q : Bool → Hp → Prop) (q : tDt g W (mTest m) σ H Q) : tTest t σ H Q := by
  refine ht σ H _ ?_
  obtain ⟨ids, S, Z, r, q⟩ := tDt_wp.mp q
  refine tD_firstB r q fun o v S1 H1 ids1 A q1 => ?_
  cases e1 : curD S1 o with
  | none => rw [e1] at q1; exact q1.elim
  | some d =>
    rw [e1] at q1
    cases d with
    | bl k =>
      have l := A.look (i := 0) rfl rfl e1
      exact ⟨k, l, q1 H1 ids1 A.drop⟩
    | _ => exact q1.elim
theorem dt_cmp {op : CmpOp} {r : R2} {F : D → D → Option Cell} (ho : OpR X (compareOp op) r) (hp : Pure2 g r F) (ha : DE X g W a ma) (hb : DE X g W b mb) (hm : behindInMarks op b = false) :
    DT X g W (.Compare a [op] [b] pos) (mTest (m2 ma mb (pure2 F))) := pt_imp (pt_cmpR ho ha hb hm) (t_test (t_op hp))
theorem dt_tru (B : g.K = X.K) (ha : DE X g W a ma) (he : ∀ whole, isTrue a X.env whole = (do let v ← whole; standAt a.pos; holding [v] (truthy v))) : DT X g W a (mTru ma) := by
  refine pt_imp (pt_truth ha he) fun σ H Q q => ?_
  obtain ⟨ids, S, Z, r, q⟩ := tDt_wp.mp q
  refine tD_firstB r q fun o v S1 H1 ids1 A q1 => ?_
  obtain ⟨k, t, q2⟩ := wp_truB A q1
  exact ⟨k, B ▸ t, q2⟩
def DW (X : Cx) (g : Gh) (W : WX) (e : Expr) (m : M Bool) : Prop := PW X e (tDt g W m)
theorem pw_imp {e : Expr} {t t' : TT} (h : PW X e t) (i : ∀ σ H Q, t' σ H Q → t σ H Q) : PW X e t' := ⟨fun w pins s σ H Q I q => h.run w pins s σ H Q I (i σ H Q q)⟩
theorem dw_and1 {m : M Bool} (ha : DT X g W a m) : DW X g W (.BoolOp .And [a] pos) m := pw_and1 ha
theorem dw_or1 {m : M Bool} (ha : DT X g W a m) : DW X g W (.BoolOp .Or [a] pos) m := pw_or1 ha
theorem dw_and {m n : M Bool} {rest : List Expr} (ha : DT X g W a m) (hb : DW X g W (.BoolOp .And (b :: rest) pos) n) : DW X g W (.BoolOp .And (a :: b :: rest) pos) (bAnd m n) := by
  refine pw_imp (pw_and ha hb) fun σ H Q q => ?_
  obtain ⟨ids, S, Z, r, q⟩ := tDt_wp.mp q
  refine tDt_firstB r q fun b S1 H1 ids1 A q1 => ?_
  cases b with
  | true => exact tDt_last A q1
  | false => exact q1 H1 ids1 A
theorem dw_or {m n : M Bool} {rest : List Expr} (ha : DT X g W a m) (hb : DW X g W (.BoolOp .Or (b :: rest) pos) n) : DW X g W (.BoolOp .Or (a :: b :: rest) pos) (bOr m n) := by
  refine pw_imp (pw_or ha hb) fun σ H Q q => ?_
  obtain ⟨ids, S, Z, r, q⟩ := tDt_wp.mp q
  refine tDt_firstB r q fun b S1 H1 ids1 A q1 => ?_
  cases b with
  | false => exact tDt_last A q1
  | true => exact q1 H1 ids1 A
theorem dt_bool {m : M Bool} {op : BoolOp} {es : List Expr} (h : DW X g W (.BoolOp op es pos) m) : DT X g W (.BoolOp op es pos) m := h.pt
theorem dt_not {m : M Bool} (ha : DT X g W a m) : DT X g W (.UnaryOp .Not a pos) (bNot m) := by
  refine pt_imp (pt_not ha) fun σ H Q q => ?_
  obtain ⟨ids, S, Z, r, q⟩ := tDt_wp.mp q
  exact tDt_firstB r q fun b S1 H1 ids1 A q1 => q1 H1 ids1 A
theorem de_if {m : M Bool} (hc : DT X g W c m) (ha : DE X g W a ma) (hb : DE X g W b mb) : DE X g W (.IfExp c a b pos) (mIf m ma mb) := by
  refine pe_imp (pe_ifExp hc ha hb) fun σ H Q q => ?_
  obtain ⟨ids, S, Z, r, q⟩ := tD_wp.mp q
  refine tDt_first r q fun b S1 H1 ids1 A q1 => ?_
  cases b with
  | true => exact tD_last A q1
  | false => exact tD_last A q1
/-- a < b < c -/
def mChain (ma mb mc : M Opn) (F G : D → D → Option Cell) : M Opn := M.bind ma fun x => M.bind mb fun y => fun S => match (curD S x).bind fun d => (curD S y).bind fun e => F d e with
  | some ⟨false, .bl true⟩ => M.bind mc (fun z => pure2 G y z) S
  | some ⟨false, .bl false⟩ => .ok (.v ⟨false, .bl false⟩) S
  | _ => .stuck
theorem t_chain {r r' : R2} {F G : D → D → Option Cell} (hp : Pure2 g r F) (hp' : Pure2 g r' G) (σ : L2.St) (H : Hp) (Q : VK) (h : tD g W (mChain ma mb mc F G) σ H Q) : tChain r r' (tD g W ma) (tD g W mb) (tD g W mc) σ H Q := by
  obtain ⟨ids, S, Z, rl, h⟩ := tD_wp.mp h
  refine tD_first rl h fun o v S1 H1 ids1 A h1 => ?_
  refine tD_step A h1 fun p w S2 H2 ids2 B h2 => ?_
  cases e1 : curD S2 o with
  | none => rw [e1] at h2; exact h2.elim
  | some d =>
    cases e2 : curD S2 p with
    | none => rw [e1, e2] at h2; exact h2.elim
    | some e =>
      simp only [e1, e2, Option.bind_some] at h2
      cases e3 : F d e with
      | none => rw [e3] at h2; exact h2.elim
      | some c =>
        rw [e3] at h2
        refine hp ids2 H2 _ d e v w c _ (B.look (i := 0) rfl rfl e1) (B.look (i := 1) rfl rfl e2) e3 fun v' H' m => ?_
        obtain ⟨co, cd⟩ := c
        cases co with
        | true =>
          cases cd with
          | bl k => cases k <;> exact h2.elim
          | _ => exact h2.elim
        | false =>
          cases cd with
          | bl k =>
            cases m with
            | val hv =>
              cases hv
              refine ⟨k, rfl, ?_⟩
              cases k with
              | true =>
                rw [if_pos rfl]
                -- the third operand, behind the second
                have B2 : Aft g ids S σ H Z [p] [w] ids2 S2 H2 := by
                  refine ⟨B.rel.less fun a z => ?_, rfl, fun i q u a1 a2 => ?_, fun i d a a1 a2 => ?_, fun i j d e a a1 a2 _ _ => ?_, B.keep, B.trk, B.sub, B.bnd, B.ids, B.pin⟩
                  · rcases z with z | ⟨i, d, a1, a2⟩
                    · exact .inl z
                    · cases i with
                      | zero => exact .inr ⟨1, d, a1, a2⟩
                      | succ i => simp at a1
                  · cases i with
                    | zero =>
                      cases a1
                      cases a2
                      have z := B.res 1 _ _ rfl rfl
                      have gr : ∀ b, OA S2 σ (ZL Z [p] [w]) b → OA S2 σ (ZL Z ([o] ++ [p]) ([v] ++ [w])) b := fun b z => by
                        rcases z with (z | ⟨i, d, a1, a2⟩) | z
                        · exact .inl (.inl z)
                        · cases i with
                          | zero => exact .inl (.inr ⟨1, d, a1, a2⟩)
                          | succ i => simp at a1
                        · exact .inr z
                      cases p with
                      | s j => exact z
                      | v c => exact CellRep.mono (c := c) z (fun _ _ _ _ q => q) .refl (fun b z => .inl (gr b z)) .rfl
                    | succ i => simp at a1
                  · cases i with
                    | zero => exact B.new 1 d a a1 a2
                    | succ i => simp at a1
                  · cases i with
                    | zero =>
                      cases j with
                      | zero => rfl
                      | succ j => simp at a2
                    | succ i => simp at a1
                exact tD_step B2 h2 fun z zv S3 H3 ids3 C h3 => wp_pure2 hp' C h3
              | false =>
                rw [if_neg Bool.false_ne_true]
                exact h2 _ H2 ids2 (B.made (.val (.bl _)))
          | _ => exact h2.elim
theorem de_chain {op op' : CmpOp} {r r' : R2} {F G : D → D → Option Cell} (ho : OpR X (compareOp op) r) (ho' : OpR X (compareOp op') r') (hp : Pure2 g r F) (hp' : Pure2 g r' G) (ha : DE X g W a ma) (hb : DE X g W b mb) (hc : DE X g W c mc)
    (hm : lastMarks [op, op'] [b, c] = false) : DE X g W (.Compare a [op, op'] [b, c] pos) (mChain ma mb mc F G) := pe_imp (pe_chain ho ho' ha hb hc hm) (t_chain hp hp')
theorem dt_chain {op op' : CmpOp} {r r' : R2} {F G : D → D → Option Cell} (ho : OpR X (compareOp op) r) (ho' : OpR X (compareOp op') r') (hp : Pure2 g r F) (hp' : Pure2 g r' G) (ha : DE X g W a ma) (hb : DE X g W b mb) (hc : DE X g W c mc)
    (hm : lastMarks [op, op'] [b, c] = false) : DT X g W (.Compare a [op, op'] [b, c] pos) (mTest (mChain ma mb mc F G)) := pt_imp (pt_chain ho ho' ha hb hc hm) (t_test (t_chain hp hp'))
end
end Ov


set_option Elab.async false
set_option linter.all false
set_option maxRecDepth 100000
set_option maxHeartbeats 4000000
namespace Ov
open PySem PySem.Spec PyProof.Rows L2

/-! ### things that are shared from here on -/
def frz (S : Sta) : Opn → Sta
  | .v _ => S
  | .s i => match S.sl[i]? with
    | some (some c) => { S with sl := S.sl.set i (some ⟨false, c.d⟩) }
    | _ => S
def frzL (S : Sta) (os : List Opn) : Sta := os.foldl frz S
theorem frz_get {S : Sta} {o : Opn} {j : Nat} : (frz S o).sl[j]? = S.sl[j]? ∨ ∃ c, o = .s j ∧ S.sl[j]? = some (some c) ∧ (frz S o).sl[j]? = some (some ⟨false, c.d⟩) := by
  cases o with
  | v c => exact .inl rfl
  | s i =>
    unfold frz
    dsimp only
    split
    · rename_i c e
      by_cases h : i = j
      · subst h
        refine .inr ⟨c, rfl, e, ?_⟩
        exact List.getElem?_set_self (List.getElem?_eq_some_iff.mp e).1
      · exact .inl (List.getElem?_set_ne h)
    · exact .inl rfl
theorem frz_sub {S : Sta} {o : Opn} (i : Nat) (d : D) (h : (frz S o).sl[i]? = some (some ⟨true, d⟩)) : S.sl[i]? = some (some ⟨true, d⟩) := by
  rcases frz_get (S := S) (o := o) (j := i) with e | ⟨c, _, _, e⟩
  · rw [e] at h; exact h
  · rw [e] at h; cases h
theorem frz_bnd {S : Sta} {o : Opn} (i : Nat) (c : Cell) (h : S.sl[i]? = some (some c)) : ∃ c', (frz S o).sl[i]? = some (some c') ∧ c'.d = c.d := by
  rcases frz_get (S := S) (o := o) (j := i) with e | ⟨c', _, e1, e⟩
  · exact ⟨c, e.trans h, rfl⟩
  · rw [h] at e1; cases e1; exact ⟨_, e, rfl⟩
theorem frz_cur {S : Sta} {o p : Opn} : curD (frz S o) p = curD S p := by
  cases p with
  | v c => rfl
  | s i =>
    show ((frz S o).sl[i]?.join).map (·.d) = (S.sl[i]?.join).map (·.d)
    rcases frz_get (S := S) (o := o) (j := i) with e | ⟨c', _, e1, e⟩
    · rw [e]
    · rw [e, e1]; rfl
theorem frz_len {S : Sta} {o : Opn} : (frz S o).sl.length = S.sl.length := by
  unfold frz
  split
  · rfl
  · split
    · simp
    · rfl
theorem frz_pin {S : Sta} {o : Opn} : (frz S o).pin = S.pin := by
  unfold frz
  split
  · rfl
  · split <;> rfl
theorem frz_cnt {S : Sta} {o : Opn} : (frz S o).cnt = S.cnt := by
  unfold frz
  split
  · rfl
  · split <;> rfl
section
variable {g : Gh} {W : WX} {ids ids1 : List Addr} {S S1 : Sta} {σ : L2.St} {H H1 : Hp} {Z : Addr → Prop} {os : List Opn} {vs : List V} {Q : VK} {ma mb : M Opn}
theorem Rel.frz (r : Rel g ids S σ H Z) (o : Opn) : Rel g ids (frz S o) σ H Z := by
  have sub : ∀ a, OA (Ov.frz S o) σ Z a → OA S σ Z a := fun a z => z.elim .inl fun z => .inr (OwnA.less (fun i d h => ⟨d, frz_sub i d h⟩) z)
  refine ⟨by rw [frz_len]; exact r.len, fun j c e => ?_, fun i j di dj a h1 h2 => r.inj i j di dj a (frz_sub i di h1) (frz_sub j dj h2), fun a z => r.apart a (OwnA.less (fun i d h => ⟨d, frz_sub i d h⟩) z), r.trk, by rw [frz_cnt]; exact r.cnt, r.nd, r.idt⟩
  rcases frz_get (S := S) (o := o) (j := j) with h | ⟨c', ho, h1, h2⟩
  · rw [h] at e
    obtain ⟨v, e1, e2⟩ := r.rep j c e
    exact ⟨v, e1, e2.mono (fun _ _ _ _ q => q) .refl (fun a z => .inl (sub a z)) .rfl⟩
  · rw [h2] at e
    cases e
    obtain ⟨v, e1, e2⟩ := r.rep j c' h1
    refine ⟨v, e1, ?_⟩
    obtain ⟨b, d⟩ := c'
    cases b with
    | false => exact e2.mono (fun _ _ _ _ q => q) .refl (fun a z => .inl (sub a z)) .rfl
    | true =>
      obtain ⟨a, e3, e4⟩ := e2.own
      subst e3
      show Rep g ids H (OA (Ov.frz S o) σ Z) d (.ref a)
      refine e4.free sub fun z => ?_
      rcases z with z | ⟨k, dk, z1, z2⟩
      · exact r.apart a ⟨j, d, h1, e1⟩ z
      · have := r.inj k j dk d a (frz_sub k dk z1) h1 z2 e1
        subst this
        rw [h2] at z1
        cases z1
theorem Aft.frz (A : Aft g ids S σ H Z os vs ids1 S1 H1) (o : Opn) : Aft g ids S σ H Z os vs ids1 (frz S1 o) H1 := by
  have sub : ∀ Z a, OA (Ov.frz S1 o) σ Z a → OA S1 σ Z a := fun Z a z => z.elim .inl fun z => .inr (OwnA.less (fun i d h => ⟨d, frz_sub i d h⟩) z)
  refine ⟨A.rel.frz o, A.len, fun i p v h1 h2 => ?_, A.new, A.two, A.keep, A.trk, fun i d h => A.sub i d (frz_sub i d h), fun i c h => ?_, A.ids, frz_pin.trans A.pin⟩
  · have q := A.res i p v h1 h2
    cases p with
    | s j =>
      obtain ⟨q1, c, q2⟩ := q
      obtain ⟨c', q3, _⟩ := frz_bnd (o := o) j c q2
      exact ⟨q1, c', q3⟩
    | v c => exact CellRep.mono (c := c) q (fun _ _ _ _ q => q) .refl (fun a z => .inl (sub _ a z)) .rfl
  · obtain ⟨c1, e1⟩ := A.bnd i c h
    obtain ⟨c', q3, _⟩ := frz_bnd (o := o) i c1 e1
    exact ⟨c', q3⟩
theorem Aft.frzL {ps : List Opn} : ∀ {S1 : Sta}, Aft g ids S σ H Z os vs ids1 S1 H1 → Aft g ids S σ H Z os vs ids1 (frzL S1 ps) H1 := by
  induction ps with
  | nil => exact fun A => A
  | cons o ps ih => exact fun A => ih (A.frz o)
theorem frzL_cur {ps : List Opn} {p : Opn} : ∀ {S : Sta}, curD (frzL S ps) p = curD S p := by
  induction ps with
  | nil => exact rfl
  | cons o ps ih => intro S; exact (ih (S := frz S o)).trans frz_cur
theorem frzL_sub {ps : List Opn} {i : Nat} {d : D} : ∀ {S : Sta}, (frzL S ps).sl[i]? = some (some ⟨true, d⟩) → S.sl[i]? = some (some ⟨true, d⟩) := by
  induction ps with
  | nil => exact fun h => h
  | cons o ps ih => intro S h; exact frz_sub i d (ih h)
theorem frzL_not {ps : List Opn} {i : Nat} {d : D} (hi : .s i ∈ ps) : ∀ {S : Sta}, (frzL S ps).sl[i]? ≠ some (some ⟨true, d⟩) := by
  induction ps with
  | nil => cases hi
  | cons o ps ih =>
    intro S h
    rcases List.mem_cons.mp hi with e | hi
    · subst e
      have z := frzL_sub (S := frz S (.s i)) h
      rcases frz_get (S := S) (o := .s i) (j := i) with e | ⟨c, _, _, e⟩
      · rw [e] at z
        unfold frz at e
        dsimp only at e
        rw [z] at e
        dsimp only at e
        rw [List.getElem?_set_self (List.getElem?_eq_some_iff.mp z).1] at e
        cases e
      · rw [e] at z
        cases z
    · exact ih hi h
theorem mapM_get {α β : Type} {f : α → Option β} : ∀ {l : List α} {r : List β}, l.mapM f = some r → r.length = l.length ∧ ∀ (i : Nat) (a : α) (b : β), l[i]? = some a → r[i]? = some b → f a = some b
  | [], r, h => by
    simp at h
    subst h
    exact ⟨rfl, fun i a b h => by simp at h⟩
  | x :: l, r, h => by
    rw [List.mapM_cons] at h
    cases e : f x with
    | none => rw [e] at h; cases h
    | some y =>
      rw [e] at h
      cases e2 : l.mapM f with
      | none => rw [e2] at h; cases h
      | some ys =>
        rw [e2] at h
        have h' : r = y :: ys := (Option.some.inj h).symm
        subst h'
        obtain ⟨h1, h2⟩ := mapM_get e2
        refine ⟨by simp [h1], fun i a b p q => ?_⟩
        cases i with
        | zero => cases p; cases q; exact e
        | succ i => exact h2 i a b (by simpa using p) (by simpa using q)
/-- all operands are shared: they stand for their data, apart from what is owned still -/
theorem Aft.taken (r : Rel g ids S σ H Z) (A : Aft g ids S σ H Z os vs ids1 S1 H1) {ds : List D} (h : os.mapM (curD S1) = some ds) : RepL g ids1 H1 (OA (Ov.frzL S1 os) σ Z) ds vs ∧ Aft g ids S σ H Z os vs ids1 (Ov.frzL S1 os) H1 := by
  have B := A.frzL (ps := os)
  obtain ⟨hl, hg⟩ := mapM_get h
  refine ⟨⟨by rw [A.len, hl], fun i d x h1 h2 => ?_⟩, B⟩
  have hi : i < os.length := by
    have := (List.getElem?_eq_some_iff.mp h1).1
    omega
  have ho : os[i]? = some os[i] := List.getElem?_eq_getElem hi
  have hc := hg i _ d ho h1
  have q := B.res i _ x ho h2
  have gr : ∀ a, OA (Ov.frzL S1 os) σ Z a → OA (Ov.frzL S1 os) σ (ZL Z os vs) a := fun a z => OA.sub z
  cases e : os[i] with
  | s j =>
    rw [e] at q ho hc
    obtain ⟨q1, c, q2⟩ := q
    obtain ⟨v, e1, e2⟩ := B.rel.rep j c q2
    rw [q1] at e1
    have e3 : x = v := Option.some.inj (Option.some.inj e1)
    subst e3
    rw [← frzL_cur (ps := os)] at hc
    have hc' : ((Ov.frzL S1 os).sl[j]?.join).map (·.d) = some d := hc
    rw [q2] at hc'
    have e4 : c.d = d := Option.some.inj hc'
    obtain ⟨b, d'⟩ := c
    dsimp only at e4
    subst e4
    cases b with
    | true => exact absurd q2 (frzL_not (List.mem_of_getElem? ho))
    | false => exact e2.sh.mono .refl (fun a z => .inl (gr a z)) .rfl
  | v c =>
    rw [e] at q ho hc
    obtain ⟨b, d'⟩ := c
    have e4 : d' = d := Option.some.inj hc
    subst e4
    cases b with
    | false => exact CellRep.sh (show CellRep g ids1 H1 (OA (Ov.frzL S1 os) σ (ZL Z os vs)) ⟨false, d'⟩ x from q) |>.mono .refl (fun a z => .inl (gr a z)) .rfl
    | true =>
      obtain ⟨a, e5, e6⟩ := CellRep.own (show CellRep g ids1 H1 (OA (Ov.frzL S1 os) σ (ZL Z os vs)) ⟨true, d'⟩ x from q)
      subst e5
      refine e6.free gr fun z => ?_
      rcases z with z | z
      · exact r.trk a z (A.new i d' a ho h2)
      · exact B.rel.apart a z (.inr ⟨i, d', ho, h2⟩)

/-! ### lists of expressions -/
def WpL (g : Gh) (W : WX) (ids : List Addr) (S : Sta) (σ : L2.St) (H : Hp) (Z : Addr → Prop) (Q : List V → Hp → Prop) : Res (List Opn) → Prop
  | .ok os S' => ∀ vs H' ids', Aft g ids S σ H Z os vs ids' S' H' → Q vs H'
  | .exc x S' => ∀ cls d H' ids', AftX g ids S σ H Z x cls d ids' S' H' → W cls d σ H'
  | .stuck => False
theorem tDs_wp {m : M (List Opn)} {Q : List V → Hp → Prop} : tDs g W m σ H Q ↔ ∃ ids S Z, Rel g ids S σ H Z ∧ WpL g W ids S σ H Z Q (m S) := by
  constructor
  · rintro ⟨ids, S, Z, r, h⟩
    refine ⟨ids, S, Z, r, ?_⟩
    cases e : m S <;> rw [e] at h <;> exact h
  · rintro ⟨ids, S, Z, r, h⟩
    refine ⟨ids, S, Z, r, ?_⟩
    cases e : m S <;> rw [e] at h <;> exact h
def mNil : M (List Opn) := M.ret []
def mCons (m : M Opn) (ms : M (List Opn)) : M (List Opn) := M.bind m fun o => M.bind ms fun os => M.ret (o :: os)
/-- a list's operands behind others, then a rest -/
theorem tDs_step {ids ids1 : List Addr} {S S1 : Sta} {H1 : Hp} {Z : Addr → Prop} {os : List Opn} {vs : List V} {ms : M (List Opn)} {f : List Opn → M Opn} {R : List V → Hp → Prop} (A : Aft g ids S σ H Z os vs ids1 S1 H1)
    (h : Wp g W ids S σ H Z Q (M.bind ms f S1)) (k : ∀ ps ws S2 H2 ids2, Aft g ids S σ H Z (os ++ ps) (vs ++ ws) ids2 S2 H2 → Wp g W ids S σ H Z Q (f ps S2) → R ws H2) : tDs g W ms σ H1 R := by
  refine tDs_wp.mpr ⟨ids1, S1, _, A.rel, ?_⟩
  unfold M.bind at h
  cases e : ms S1 with
  | ok ps S2 =>
    rw [e] at h
    exact fun ws H2 ids2 B => k ps ws S2 H2 ids2 (A.append B) h
  | exc x S2 =>
    rw [e] at h
    exact fun cls d H2 ids2 B => h cls d H2 ids2 (AftX.behind A B)
  | stuck =>
    rw [e] at h
    exact h
theorem tDs_first {ms : M (List Opn)} {f : List Opn → M Opn} {R : List V → Hp → Prop} (r : Rel g ids S σ H Z)
    (h : Wp g W ids S σ H Z Q (M.bind ms f S)) (k : ∀ ps ws S2 H2 ids2, Aft g ids S σ H Z ps ws ids2 S2 H2 → Wp g W ids S σ H Z Q (f ps S2) → R ws H2) : tDs g W ms σ H R := by
  have h0 := Aft.nil r
  refine tDs_wp.mpr ⟨ids, S, Z, r, ?_⟩
  unfold M.bind at h
  cases e : ms S with
  | ok ps S2 =>
    rw [e] at h
    exact fun ws H2 ids2 B => k ps ws S2 H2 ids2 B h
  | exc x S2 =>
    rw [e] at h
    exact h
  | stuck =>
    rw [e] at h
    exact h
end
section
variable {X : Cx} {g : Gh} {W : WX} {a b c e : Expr} {ma mb mc m : M Opn} {pos : Pos} {es : List Expr} {ms : M (List Opn)}
theorem da_nil : DA X g W [] mNil := by
  refine pa_imp pa_nil fun σ H Q q => ?_
  obtain ⟨ids, S, Z, r, q⟩ := tDs_wp.mp q
  exact q [] H ids (Aft.nil r)
theorem da_cons (h : DE X g W e m) (hs : DA X g W es ms) (hst : starEach (e :: es) X.env = (false, eval e X.env) :: starEach es X.env) : DA X g W (e :: es) (mCons m ms) := by
  refine pa_imp (pa_cons h hs hst) fun σ H Q q => ?_
  obtain ⟨ids, S, Z, r, q⟩ := tDs_wp.mp q
  show tD g W m σ H fun x H1 => tDs g W ms σ H1 fun xs H2 => Q (x :: xs) H2
  refine tD_wp.mpr ⟨ids, S, Z, r, ?_⟩
  unfold mCons M.bind at q
  cases e1 : m S with
  | stuck => rw [e1] at q; exact q
  | exc x S1 => rw [e1] at q; exact q
  | ok o S1 =>
    rw [e1] at q
    intro v H1 ids1 A
    refine tDs_wp.mpr ⟨ids1, S1, _, A.rel, ?_⟩
    simp only at q
    cases e2 : ms S1 with
    | stuck => rw [e2] at q; exact q
    | exc x S2 =>
      rw [e2] at q
      exact fun cls d H2 ids2 B => q cls d H2 ids2 (AftX.behind A B)
    | ok os S2 =>
      rw [e2] at q
      exact fun vs H2 ids2 B => q (v :: vs) H2 ids2 (A.append B)
/-- displays -/
def mkL (os : List Opn) : M Opn := fun S => match os.mapM (curD S) with
  | some ds => if ds.length ≤ sizeLine then .ok (.v ⟨true, .lst ds⟩) (frzL S os) else .stuck
  | none => .stuck
def mkT (os : List Opn) : M Opn := fun S => match os.mapM (curD S) with
  | some ds => if ds.length ≤ sizeLine then .ok (.v ⟨false, .tup ds⟩) (frzL S os) else .stuck
  | none => .stuck
def mList (ms : M (List Opn)) : M Opn := M.bind ms mkL
def mTup (ms : M (List Opn)) : M Opn := M.bind ms mkT
theorem de_list (h : DA X g W es ms) : DE X g W (.List es pos) (mList ms) := by
  refine pe_imp (pe_lst h) fun σ H Q q => ?_
  obtain ⟨ids, S, Z, r, q⟩ := tD_wp.mp q
  refine tDs_first r q fun os vs S1 H1 ids1 A q1 => ?_
  unfold mkL at q1
  cases e : os.mapM (curD S1) with
  | none => rw [e] at q1; exact q1.elim
  | some ds =>
    rw [e] at q1
    obtain ⟨hr, B⟩ := A.taken r e
    by_cases hz : ds.length ≤ sizeLine
    · simp only [hz, if_true] at q1
      exact ⟨by rw [hr.1]; exact hz, fun p hp => q1 _ _ ids1 (B.made (.lst hp hr))⟩
    · simp only [hz, if_false] at q1
      exact q1.elim
theorem de_tup {k : Nat} (h : DA X g W es ms) : DE X g W (.Tuple es k pos) (mTup ms) := by
  refine pe_imp (pe_tup h) fun σ H Q q => ?_
  obtain ⟨ids, S, Z, r, q⟩ := tD_wp.mp q
  refine tDs_first r q fun os vs S1 H1 ids1 A q1 => ?_
  unfold mkT at q1
  cases e : os.mapM (curD S1) with
  | none => rw [e] at q1; exact q1.elim
  | some ds =>
    rw [e] at q1
    obtain ⟨hr, B⟩ := A.taken r e
    by_cases hz : ds.length ≤ sizeLine
    · simp only [hz, if_true] at q1
      exact ⟨by rw [hr.1]; exact hz, fun p hp => q1 _ _ ids1 (B.made (.tup hp hr))⟩
    · simp only [hz, if_false] at q1
      exact q1.elim
/-! ### calls of built-ins that only read -/
theorem mapM_nil_get {S : Sta} : ([] : List Opn).mapM (curD S) = some [] := rfl
theorem looks_of {ids ids1 : List Addr} {S S1 : Sta} {σ : L2.St} {H H1 : Hp} {Z : Addr → Prop} {os : List Opn} {vs : List V} {ds : List D} (A : Aft g ids S σ H Z os vs ids1 S1 H1) (h : os.mapM (curD S1) = some ds) : Looks g ids1 H1 (OA S1 σ Z) ds vs := by
  obtain ⟨hl, hg⟩ := mapM_get h
  have key : ∀ (ds : List D) (vs : List V), ds.length = vs.length → (∀ (i : Nat) d v, ds[i]? = some d → vs[i]? = some v → Look g ids1 H1 (OA S1 σ Z) d v) → Paired (Look g ids1 H1 (OA S1 σ Z)) ds vs := by
    intro ds
    induction ds with
    | nil =>
      intro vs hl _
      cases vs with
      | nil => exact .nil
      | cons _ _ => cases hl
    | cons d ds ih =>
      intro vs hl hh
      cases vs with
      | nil => cases hl
      | cons v vs => exact .cons (hh 0 d v rfl rfl) (ih vs (Nat.succ.inj hl) fun i d v a b => hh (i + 1) d v a b)
  refine key ds vs (by rw [hl, A.len]) fun i d v h1 h2 => ?_
  have hi : i < os.length := by
    have := (List.getElem?_eq_some_iff.mp h1).1
    omega
  have ho : os[i]? = some os[i] := List.getElem?_eq_getElem hi
  exact A.look ho h2 (hg i _ d ho h1)
def mCallB (ms : M (List Opn)) (F : List D → Option Cell) : M Opn := M.bind ms (pureN F)
theorem wp_pureN {ids ids1 : List Addr} {S S1 : Sta} {σ : L2.St} {H H1 : Hp} {Z : Addr → Prop} {os : List Opn} {vs : List V} {r : List V → Hp → VK → Prop} {F : List D → Option Cell} {Q : VK} (hp : PureN g r F) (A : Aft g ids S σ H Z os vs ids1 S1 H1)
    (h : Wp g W ids S σ H Z Q (pureN F os S1)) : r vs H1 Q := by
  unfold pureN at h
  cases e1 : os.mapM (curD S1) with
  | none => rw [e1] at h; exact h.elim
  | some ds =>
    rw [e1] at h
    simp only [Option.bind_some] at h
    cases e3 : F ds with
    | none => rw [e3] at h; exact h.elim
    | some c =>
      rw [e3] at h
      exact hp ids1 H1 _ ds vs c Q (looks_of A e1) e3 fun v' H' m => h v' H' ids1 (A.made m)
theorem t_callB {r : List V → Hp → VK → Prop} {F : List D → Option Cell} (hp : PureN g r F) (σ : L2.St) (H : Hp) (Q : VK) (h : tD g W (mCallB ms F) σ H Q) : tCB r (tDs g W ms) σ H Q := by
  obtain ⟨ids, S, Z, rl, h⟩ := tD_wp.mp h
  exact tDs_first rl h fun os vs S1 H1 ids1 A q1 => wp_pureN hp A q1
theorem de_callB {x : Str} {id : String} {p : Pos} {r : List V → Hp → VK → Prop} {F : List D → Option Cell} (hc : CallR X (.builtin id) r) (hp : PureN g r F) (hg : Gl X x) (hm : X.mg x = none) (hv : bootBuiltins x = some (.builtin id)) (ha : DA X g W (e :: es) ms)
    (hn : x ≠ "__name__") (hdb : (x == ("__debug__" : Str)) = false) (he : starEach (e :: es) X.env = (false, eval e X.env) :: starEach es X.env) (hpl : (backTo pos (starEach es X.env)).any (·.1) = false) :
    DE X g W (.Call (.Name x p) (e :: es) [] pos) (mCallB ms F) := pe_imp (pe_callB hc hg hm hv ha hn hdb he hpl) (t_callB hp)
theorem de_callTy {x : Str} {T : String} {p : Pos} {r : List V → Hp → VK → Prop} {F : List D → Option Cell} (hc : CallR X (.type T) r) (hp : PureN g r F) (hg : Gl X x) (hm : X.mg x = none) (hv : bootBuiltins x = some (.type T)) (ha : DA X g W (e :: es) ms)
    (hn : x ≠ "__name__") (hdb : (x == ("__debug__" : Str)) = false) (he : starEach (e :: es) X.env = (false, eval e X.env) :: starEach es X.env) (hpl : (backTo pos (starEach es X.env)).any (·.1) = false) :
    DE X g W (.Call (.Name x p) (e :: es) [] pos) (mCallB ms F) := pe_imp (pe_callTy hc hg hm hv ha hn hdb he hpl) (t_callB hp)
end
end Ov


set_option Elab.async false
set_option linter.all false
set_option maxRecDepth 100000
set_option maxHeartbeats 4000000
namespace Ov
open PySem PySem.Spec PyProof.Rows L2

/-- how a statement ends -/
inductive SR where
  | nx (S : Sta) | rt (c : Cell) (S : Sta) | bk (S : Sta) | ct (S : Sta) | exc (x : Exn) (S : Sta) | stuck
abbrev SM := Sta → SR

/-- behind a statement: what was kept -/
structure Step (ids : List Addr) (S : Sta) (σ : L2.St) (H : Hp) (ids' : List Addr) (S' : Sta) (σ' : L2.St) (H' : Hp) : Prop where
  keep : Kept H H' (OwnA S σ)
  trk : ∀ a, H a ≠ none → H' a ≠ none
  own : ∀ (i : Nat) (d : D) (a : Addr), S'.sl[i]? = some (some ⟨true, d⟩) → σ'[i]? = some (some (.ref a)) → H a = none ∨ ((∃ d0, S.sl[i]? = some (some ⟨true, d0⟩)) ∧ σ[i]? = some (some (.ref a)))
  pinσ : ∀ (i : Nat), S.pin[i]? = some true → σ'[i]? = σ[i]?
  pinb : ∀ (i : Nat) (c : Cell), S.pin[i]? = some true → S.sl[i]? = some (some c) → ∃ c', S'.sl[i]? = some (some c')
  pin : S'.pin = S.pin
  ids : Ids ids ids'
section
variable {g : Gh} {W : WX} {ids ids1 ids2 : List Addr} {S S1 S2 : Sta} {σ σ1 σ2 : L2.St} {H H1 H2 : Hp} {Z : Addr → Prop} {os : List Opn} {vs : List V}
theorem Step.refl : Step ids S σ H ids S σ H := ⟨.refl, fun _ h => h, fun i d a h1 h2 => .inr ⟨⟨d, h1⟩, h2⟩, fun _ _ => rfl, fun i c _ h => ⟨c, h⟩, rfl, .rfl⟩
theorem Step.ownA (T : Step ids S σ H ids1 S1 σ1 H1) {a : Addr} (h : OwnA S1 σ1 a) : H a = none ∨ OwnA S σ a := by
  obtain ⟨i, d, h1, h2⟩ := h
  rcases T.own i d a h1 h2 with z | ⟨⟨d0, z1⟩, z2⟩
  · exact .inl z
  · exact .inr ⟨i, d0, z1, z2⟩
theorem none_back {a : Addr} (t : ∀ a, H a ≠ none → H1 a ≠ none) (h : H1 a = none) : H a = none := by
  cases e : H a with
  | none => rfl
  | some o => exact absurd h (t a (by rw [e]; simp))
theorem Step.trans (T : Step ids S σ H ids1 S1 σ1 H1) (U : Step ids1 S1 σ1 H1 ids2 S2 σ2 H2) : Step ids S σ H ids2 S2 σ2 H2 := by
  refine ⟨fun a o e n => ?_, fun a h => U.trk a (T.trk a h), fun i d a h1 h2 => ?_, fun i h => ?_, fun i c h h1 => ?_, U.pin.trans T.pin, T.ids.trans U.ids⟩
  · refine U.keep a o (T.keep a o e n) fun z => ?_
    rcases T.ownA z with z | z
    · rw [z] at e; cases e
    · exact n z
  · rcases U.own i d a h1 h2 with z | ⟨⟨d1, z1⟩, z2⟩
    · exact .inl (none_back T.trk z)
    · exact T.own i d1 a z1 z2
  · exact (U.pinσ i (by rw [T.pin]; exact h)).trans (T.pinσ i h)
  · obtain ⟨c1, e1⟩ := T.pinb i c h h1
    exact U.pinb i c1 (by rw [T.pin]; exact h) e1
theorem Aft.step (A : Aft g ids S σ H Z os vs ids1 S1 H1) : Step ids S σ H ids1 S1 σ H1 :=
  ⟨A.keep, A.trk, fun i d a h1 h2 => by
    obtain ⟨d0, e⟩ := A.sub i d h1
    exact .inr ⟨⟨d0, e⟩, h2⟩, fun _ _ => rfl, fun i c _ h => A.bnd i c h, A.pin, A.ids⟩
/-- an owned temporary is apart from Z -/
def ZC (Z : Addr → Prop) (c : Cell) (v : V) (b : Addr) : Prop := Z b ∨ (c.own = true ∧ v = .ref b)
/-- what is handed back -/
structure Ret (g : Gh) (ids : List Addr) (S : Sta) (σ : L2.St) (H : Hp) (Z : Addr → Prop) (c : Cell) (v : V) (ids' : List Addr) (S' : Sta) (σ' : L2.St) (H' : Hp) : Prop where
  rel : Rel g ids' S' σ' H' (ZC Z c v)
  res : CellRep g ids' H' (OA S' σ' (ZC Z c v)) c v
  new : ∀ a, c.own = true → v = .ref a → H a = none ∨ ∃ (i : Nat) (d : D), S.sl[i]? = some (some ⟨true, d⟩) ∧ σ[i]? = some (some (.ref a)) ∧ S.pin[i]? ≠ some true
  st : Step ids S σ H ids' S' σ' H'
theorem Ret.behind {c : Cell} {v : V} (T : Step ids S σ H ids1 S1 σ1 H1) (R : Ret g ids1 S1 σ1 H1 Z c v ids2 S2 σ2 H2) : Ret g ids S σ H Z c v ids2 S2 σ2 H2 := by
  refine ⟨R.rel, R.res, fun a h1 h2 => ?_, T.trans R.st⟩
  rcases R.new a h1 h2 with z | ⟨i, d, z1, z2, z3⟩
  · exact .inl (none_back T.trk z)
  · rcases T.own i d a z1 z2 with y | ⟨⟨d0, y1⟩, y2⟩
    · exact .inl y
    · exact .inr ⟨i, d0, y1, y2, by rw [← T.pin]; exact z3⟩
/-- behind an exception, of a statement -/
structure SX (g : Gh) (ids : List Addr) (S : Sta) (σ : L2.St) (H : Hp) (Z : Addr → Prop) (x : Exn) (cls : Value) (d : Option Addr) (ids' : List Addr) (S' : Sta) (σ' : L2.St) (H' : Hp) : Prop where
  rel : Rel g ids' S' σ' H' Z
  cls : g.mg x.C = some cls
  pay : (x.fs = [] ∧ d = none) ∨ ∃ p vs, d = some p ∧ H' p = some (.xd vs) ∧ ¬ OA S' σ' Z p ∧ RepF g ids' H' (OA S' σ' Z) x.fs vs
  st : Step ids S σ H ids' S' σ' H'
theorem SX.behind {x : Exn} {cls : Value} {d : Option Addr} (T : Step ids S σ H ids1 S1 σ1 H1) (R : SX g ids1 S1 σ1 H1 Z x cls d ids2 S2 σ2 H2) : SX g ids S σ H Z x cls d ids2 S2 σ2 H2 := ⟨R.rel, R.cls, R.pay, T.trans R.st⟩
theorem AftX.sx {x : Exn} {cls : Value} {d : Option Addr} (A : AftX g ids S σ H Z x cls d ids1 S1 H1) : SX g ids S σ H Z x cls d ids1 S1 σ H1 :=
  ⟨A.rel, A.cls, A.pay, ⟨A.keep, A.trk, fun i d a h1 h2 => by
    obtain ⟨d0, e⟩ := A.sub i d h1
    exact .inr ⟨⟨d0, e⟩, h2⟩, fun _ _ => rfl, fun i c _ h => A.bnd i c h, A.pin, A.ids⟩⟩

/-- what a statement's end asks -/
def WpS (g : Gh) (W : WX) (ids : List Addr) (S : Sta) (σ : L2.St) (H : Hp) (Z : Addr → Prop) (D' : Ends) : SR → Prop
  | .nx S' => ∀ σ' H' ids', Step ids S σ H ids' S' σ' H' → Rel g ids' S' σ' H' Z → D'.nx σ' H'
  | .bk S' => ∀ σ' H' ids', Step ids S σ H ids' S' σ' H' → Rel g ids' S' σ' H' Z → D'.bk σ' H'
  | .ct S' => ∀ σ' H' ids', Step ids S σ H ids' S' σ' H' → Rel g ids' S' σ' H' Z → D'.ct σ' H'
  | .rt c S' => ∀ v σ' H' ids', Ret g ids S σ H Z c v ids' S' σ' H' → D'.rt v H'
  | .exc x S' => ∀ cls d σ' H' ids', SX g ids S σ H Z x cls d ids' S' σ' H' → W cls d σ' H'
  | .stuck => False
def tS (g : Gh) (W : WX) (m : SM) : TS := fun D' σ H => ∃ ids S Z, Rel g ids S σ H Z ∧ WpS g W ids S σ H Z D' (m S)
def DS (X : Cx) (g : Gh) (W : WX) (s : Stmt) (m : SM) : Prop := PS X s (tS g W m)
def DSs (X : Cx) (g : Gh) (W : WX) (s : List Stmt) (m : SM) : Prop := PSs X s (tS g W m)
theorem WpS.behind {D' : Ends} {r : SR} (T : Step ids S σ H ids1 S1 σ1 H1) (h : WpS g W ids S σ H Z D' r) : WpS g W ids1 S1 σ1 H1 Z D' r := by
  cases r with
  | nx S' => exact fun σ' H' ids' U => h σ' H' ids' (T.trans U)
  | bk S' => exact fun σ' H' ids' U => h σ' H' ids' (T.trans U)
  | ct S' => exact fun σ' H' ids' U => h σ' H' ids' (T.trans U)
  | rt c S' => exact fun v σ' H' ids' U => h v σ' H' ids' (.behind T U)
  | exc x S' => exact fun cls d σ' H' ids' U => h cls d σ' H' ids' (.behind T U)
  | stuck => exact h
theorem tS_at {D' : Ends} {m : SM} (T : Step ids S σ H ids1 S1 σ1 H1) (r : Rel g ids1 S1 σ1 H1 Z) (h : WpS g W ids S σ H Z D' (m S1)) : tS g W m D' σ1 H1 := ⟨ids1, S1, Z, r, h.behind T⟩
/-- one after another -/
def sSeq (m n : SM) : SM := fun S => match m S with
  | .nx S1 => n S1
  | r => r
def sNext : SM := fun S => .nx S
def sBreak : SM := fun S => .bk S
def sCont : SM := fun S => .ct S
def sIf (c : M Bool) (m n : SM) : SM := fun S => match c S with
  | .ok b S1 => if b = true then m S1 else n S1
  | .exc x S1 => .exc x S1
  | .stuck => .stuck
end
section
variable {X : Cx} {g : Gh} {W : WX} {a b c e : Expr} {ma mb mc m : M Opn} {pos : Pos} {st : Stmt} {sts : List Stmt} {m1 m2 : SM}
theorem dss_nil : DSs X g W [] sNext := by
  refine pss_imp pss_nil fun D' σ H q => ?_
  obtain ⟨ids, S, Z, r, q⟩ := q
  exact q σ H ids .refl r
theorem dss_cons (h : DS X g W st m1) (hs : DSs X g W sts m2) : DSs X g W (st :: sts) (sSeq m1 m2) := by
  refine pss_imp (pss_cons h hs) fun D' σ H q => ?_
  obtain ⟨ids, S, Z, r, q⟩ := q
  refine ⟨ids, S, Z, r, ?_⟩
  unfold sSeq at q
  cases e : m1 S with
  | nx S1 =>
    rw [e] at q
    exact fun σ1 H1 ids1 T r1 => tS_at T r1 q
  | bk S1 => rw [e] at q; exact q
  | ct S1 => rw [e] at q; exact q
  | rt c S1 => rw [e] at q; exact q
  | exc x S1 => rw [e] at q; exact q
  | stuck => rw [e] at q; exact q
theorem ds_pass : DS X g W (.Pass pos) sNext := by
  refine ps_imp ps_pass fun D' σ H q => ?_
  obtain ⟨ids, S, Z, r, q⟩ := q
  exact q σ H ids .refl r
theorem ds_doc {x : Str} {j : Nat} {p : Pos} : DS X g W (.Expr (.Constant (.str x) j pos) p) sNext := by
  refine ps_imp ps_doc fun D' σ H q => ?_
  obtain ⟨ids, S, Z, r, q⟩ := q
  exact q σ H ids .refl r
theorem ds_break : DS X g W (.Break pos) sBreak := by
  refine ps_imp ps_break fun D' σ H q => ?_
  obtain ⟨ids, S, Z, r, q⟩ := q
  exact q σ H ids .refl r
theorem ds_cont : DS X g W (.Continue pos) sCont := by
  refine ps_imp ps_continue fun D' σ H q => ?_
  obtain ⟨ids, S, Z, r, q⟩ := q
  exact q σ H ids .refl r
theorem ds_if {mc : M Bool} {xs ys : List Stmt} (hc : DT X g W c mc) (ha : DSs X g W xs m1) (hb : DSs X g W ys m2) : DS X g W (.If c xs ys pos) (sIf mc m1 m2) := by
  refine ps_imp (ps_if hc ha hb) fun D' σ H q => ?_
  obtain ⟨ids, S, Z, r, q⟩ := q
  refine tDt_wp.mpr ⟨ids, S, Z, r, ?_⟩
  unfold sIf at q
  cases e : mc S with
  | ok k S1 =>
    rw [e] at q
    intro H1 ids1 A
    have r1 : Rel g ids1 S1 σ H1 Z := A.rel.less fun a z => .inl z
    cases k with
    | true => exact tS_at A.step r1 q
    | false => exact tS_at A.step r1 q
  | exc x S1 =>
    rw [e] at q
    exact fun cls d H1 ids1 A => q cls d σ H1 ids1 A.sx
  | stuck => rw [e] at q; exact q
/-- an expression alone -/
def sExpr (m : M Opn) : SM := fun S => match m S with
  | .ok _ S1 => .nx S1
  | .exc x S1 => .exc x S1
  | .stuck => .stuck
theorem ds_expr (he : DE X g W e m) (hs : swapsWith e none pos.line X.env = pure false) : DS X g W (.Expr e pos) (sExpr m) := by
  refine ps_imp (ps_expr he hs) fun D' σ H q => ?_
  obtain ⟨ids, S, Z, r, q⟩ := q
  refine tD_wp.mpr ⟨ids, S, Z, r, ?_⟩
  unfold sExpr at q
  cases e : m S with
  | ok k S1 =>
    rw [e] at q
    exact fun v H1 ids1 A => q σ H1 ids1 A.step (A.rel.less fun a z => .inl z)
  | exc x S1 =>
    rw [e] at q
    exact fun cls d H1 ids1 A => q cls d σ H1 ids1 A.sx
  | stuck => rw [e] at q; exact q

/-! ### an operand becomes a value of its own -/
/-- its cell; what stood at a slot is shared from here on -/
def takeC (S : Sta) (o : Opn) : Option (Cell × Sta) := match o with
  | .v c => some (c, S)
  | .s i => match S.sl[i]? with
    | some (some c) => some (⟨false, c.d⟩, frz S (.s i))
    | _ => none
theorem Aft.takeC {ids ids1 : List Addr} {S S1 S2 : Sta} {σ : L2.St} {H H1 : Hp} {Z : Addr → Prop} {o : Opn} {v : V} {c : Cell} (A : Aft g ids S σ H Z [o] [v] ids1 S1 H1) (h : Ov.takeC S1 o = some (c, S2)) :
    Aft g ids S σ H Z [.v c] [v] ids1 S2 H1 := by
  cases o with
  | v c' =>
    cases h
    exact A
  | s i =>
    unfold Ov.takeC at h
    dsimp only at h
    split at h
    · rename_i c' e
      cases h
      have B := A.frz (.s i)
      obtain ⟨q1, _⟩ := A.res 0 _ _ rfl rfl
      have ez : ∀ b, ZL Z [.s i] [v] b ↔ Z b := fun b => ⟨fun z => z.elim id (by
        rintro ⟨k, d', h1, h2⟩
        cases k with
        | zero => cases h1
        | succ k => simp at h1), .inl⟩
      have e2 : (Ov.frz S1 (.s i)).sl[i]? = some (some ⟨false, c'.d⟩) := by
        unfold Ov.frz
        simp only [e]
        exact List.getElem?_set_self (List.getElem?_eq_some_iff.mp e).1
      obtain ⟨w, w1, w2⟩ := B.rel.rep i _ e2
      rw [q1] at w1
      have e3 : v = w := Option.some.inj (Option.some.inj w1)
      subst e3
      refine B.made (.val ?_)
      exact w2.sh.mono .refl (fun a z => .inl (OA.sub z)) .rfl
    · cases h
def sRet (m : M Opn) : SM := fun S => match m S with
  | .ok o S1 => match takeC S1 o with
    | some (c, S2) => .rt c S2
    | none => .stuck
  | .exc x S1 => .exc x S1
  | .stuck => .stuck
theorem Aft.ret {ids ids1 : List Addr} {S S1 : Sta} {σ : L2.St} {H H1 : Hp} {Z : Addr → Prop} {v : V} {c : Cell} (A : Aft g ids S σ H Z [.v c] [v] ids1 S1 H1) : Ret g ids S σ H Z c v ids1 S1 σ H1 := by
  have ez : ZC Z c v = ZL Z [.v c] [v] := by
    funext b
    refine propext ⟨fun z => z.elim .inl fun ⟨z1, z2⟩ => .inr ⟨0, c.d, ?_, by rw [z2]; rfl⟩, fun z => z.elim .inl ?_⟩
    · obtain ⟨k, d⟩ := c
      have e : k = true := z1
      subst e
      rfl
    · rintro ⟨k, d', h1, h2⟩
      cases k with
      | zero =>
        cases h1
        cases h2
        exact .inr ⟨rfl, rfl⟩
      | succ k => simp at h1
  refine ⟨by rw [ez]; exact A.rel, by rw [ez]; exact A.res 0 _ _ rfl rfl, fun a h1 h2 => ?_, A.step⟩
  obtain ⟨k, d⟩ := c
  have e : k = true := h1
  subst e
  exact .inl (A.new 0 d a rfl (by rw [h2]; rfl))
theorem ds_ret (he : DE X g W e m) : DS X g W (.Return (some e) pos) (sRet m) := by
  refine ps_imp (ps_ret he) fun D' σ H q => ?_
  obtain ⟨ids, S, Z, r, q⟩ := q
  refine tD_wp.mpr ⟨ids, S, Z, r, ?_⟩
  unfold sRet at q
  cases e : m S with
  | ok o S1 =>
    rw [e] at q
    dsimp only at q
    intro v H1 ids1 A
    cases e2 : Ov.takeC S1 o with
    | none => rw [e2] at q; exact q.elim
    | some p =>
      obtain ⟨c, S2⟩ := p
      rw [e2] at q
      exact q v σ H1 ids1 (A.takeC e2).ret
  | exc x S1 =>
    rw [e] at q
    exact fun cls d H1 ids1 A => q cls d σ H1 ids1 A.sx
  | stuck => rw [e] at q; exact q
def sRetN : SM := fun S => .rt ⟨false, .non⟩ S
theorem ds_retN : DS X g W (.Return none pos) sRetN := by
  refine ps_imp ps_retN fun D' σ H q => ?_
  obtain ⟨ids, S, Z, r, q⟩ := q
  exact q .non σ H ids ((Aft.nil r).made (.val .non)).ret
/-- return x, x a slot of its own: what stands there goes out -/
def sRetV (i : Nat) : SM := fun S => match S.sl[i]? with
  | some (some c) => if S.pin[i]? = some true then .rt ⟨false, c.d⟩ (frz S (.s i)) else .rt c { S with sl := S.sl.set i none }
  | _ => .stuck
/-- a slot is emptied -/
theorem Rel.clear {ids : List Addr} {S : Sta} {σ : L2.St} {H : Hp} {Z : Addr → Prop} {i : Nat} {c : Cell} {v : V} (r : Rel g ids S σ H Z) (h : S.sl[i]? = some (some c)) (hv : σ[i]? = some (some v)) :
    Rel g ids { S with sl := S.sl.set i none } σ H (ZC Z c v) ∧ CellRep g ids H (OA { S with sl := S.sl.set i none } σ (ZC Z c v)) c v := by
  have get : ∀ {j : Nat} {x : Cell}, (S.sl.set i none)[j]? = some (some x) → j ≠ i ∧ S.sl[j]? = some (some x) := fun {j x} e => by
    by_cases hj : i = j
    · subst hj
      rw [List.getElem?_set_self (List.getElem?_eq_some_iff.mp h).1] at e
      cases e
    · rw [List.getElem?_set_ne hj] at e
      exact ⟨fun z => hj z.symm, e⟩
  have own : ∀ a, OwnA { S with sl := S.sl.set i none } σ a → OwnA S σ a := fun a ⟨j, d, h1, h2⟩ => ⟨j, d, (get h1).2, h2⟩
  obtain ⟨w, w1, w2⟩ := r.rep i c h
  rw [hv] at w1
  have e3 : v = w := Option.some.inj (Option.some.inj w1)
  subst e3
  have zc : ∀ a, ZC Z c v a → OA S σ Z a := fun a z => z.elim .inl fun ⟨z1, z2⟩ => .inr ⟨i, c.d, by
    obtain ⟨k, d⟩ := c
    have e : k = true := z1
    subst e
    exact h, by rw [hv, z2]⟩
  have gr : ∀ a, OA { S with sl := S.sl.set i none } σ (ZC Z c v) a → OA S σ Z a := fun a z => z.elim (zc a) fun z => .inr (own a z)
  refine ⟨⟨by simp [r.len], fun j x e => ?_, fun j k dj dk a h1 h2 h3 h4 => r.inj j k dj dk a (get h1).2 (get h2).2 h3 h4, fun a o z => ?_, fun a z => ?_, r.cnt, r.nd, r.idt⟩, w2.mono (fun _ _ _ _ q => q) .refl (fun a z => .inl (gr a z)) .rfl⟩
  · obtain ⟨u, u1, u2⟩ := r.rep j x (get e).2
    exact ⟨u, u1, u2.mono (fun _ _ _ _ q => q) .refl (fun a z => .inl (gr a z)) .rfl⟩
  · obtain ⟨j, d, h1, h2⟩ := o
    obtain ⟨hj, h1⟩ := get h1
    rcases z with z | ⟨z1, z2⟩
    · exact r.apart a ⟨j, d, h1, h2⟩ z
    · obtain ⟨k, dc⟩ := c
      have e : k = true := z1
      subst e
      exact hj (r.inj j i d dc a h1 h h2 (by rw [hv, z2]))
  · rcases z with z | ⟨z1, z2⟩
    · exact r.trk a z
    · obtain ⟨k, dc⟩ := c
      have e : k = true := z1
      subst e
      exact r.ownTrk ⟨i, dc, h, by rw [hv, z2]⟩
theorem ds_retV (i : Nat) {x : Str} {p : Pos} (hN : X.N[i]? = some x) (hv : Vis X.env.scope x) (hd : (x == ("__debug__" : Str)) = false := by decide) (hcd : (x == ("__classdict__" : Str)) = false := by decide) :
    DS X g W (.Return (some (.Name x p)) pos) (sRetV i) := by
  refine ps_imp (ps_ret (pe_var hN hv hd hcd)) fun D' σ H q => ?_
  obtain ⟨ids, S, Z, r, q⟩ := q
  show ∃ v, σ[i]? = some (some v) ∧ D'.rt v H
  unfold sRetV at q
  cases e : S.sl[i]? with
  | none => rw [e] at q; exact q.elim
  | some oc =>
    cases oc with
    | none => rw [e] at q; exact q.elim
    | some c =>
      rw [e] at q
      obtain ⟨v, v1, v2⟩ := r.rep i c e
      refine ⟨v, v1, ?_⟩
      dsimp only at q
      by_cases hp : S.pin[i]? = some true
      · rw [if_pos hp] at q
        have r' := r.frz (.s i)
        have e2 : (Ov.frz S (.s i)).sl[i]? = some (some ⟨false, c.d⟩) := by
          unfold Ov.frz
          simp only [e]
          exact List.getElem?_set_self (List.getElem?_eq_some_iff.mp e).1
        obtain ⟨w, w1, w2⟩ := r'.rep i _ e2
        rw [v1] at w1
        have e3 : v = w := Option.some.inj (Option.some.inj w1)
        subst e3
        have ez : ZC Z ⟨false, c.d⟩ v = Z := by
          funext b
          exact propext ⟨fun z => z.elim id fun z => Bool.noConfusion z.1, .inl⟩
        refine q v σ H ids ⟨by rw [ez]; exact r', by rw [ez]; exact w2, fun a z => (Bool.noConfusion z), ⟨.refl, fun _ h => h, fun j d a h1 h2 => .inr ⟨⟨d, frz_sub j d h1⟩, h2⟩, fun _ _ => rfl, fun j c _ h => ?_, frz_pin, .rfl⟩⟩
        obtain ⟨c', h1, _⟩ := frz_bnd (o := .s i) j c h
        exact ⟨c', h1⟩
      · rw [if_neg hp] at q
        obtain ⟨r1, r2⟩ := r.clear e v1
        refine q v σ H ids ⟨r1, r2, fun a z1 z2 => ?_, ⟨.refl, fun _ h => h, fun j d a h1 h2 => ?_, fun _ _ => rfl, fun j c' hj h => ?_, rfl, .rfl⟩⟩
        · obtain ⟨k, d⟩ := c
          have e4 : k = true := z1
          subst e4
          exact .inr ⟨i, d, e, by rw [v1, z2], hp⟩
        · by_cases hj : i = j
          · subst hj
            rw [List.getElem?_set_self (List.getElem?_eq_some_iff.mp e).1] at h1
            cases h1
          · rw [List.getElem?_set_ne hj] at h1
            exact .inr ⟨⟨d, h1⟩, h2⟩
        · have hij : i ≠ j := fun z => hp (z ▸ hj)
          exact ⟨c', by rw [List.getElem?_set_ne hij]; exact h⟩
end
end Ov


set_option Elab.async false
set_option linter.all false
set_option maxRecDepth 100000
set_option maxHeartbeats 4000000
namespace Ov
open PySem PySem.Spec PyProof.Rows L2

/-! ### targets -/
abbrev AM := Cell → Sta → Option Sta
/-- behind a store of c (v) -/
structure Sto (g : Gh) (L : List Nat) (ids : List Addr) (S : Sta) (σ : L2.St) (H : Hp) (Z : Addr → Prop) (c : Cell) (v : V) (S' : Sta) (σ' : L2.St) : Prop where
  rel : Rel g ids S' σ' H Z
  own : ∀ (i : Nat) (d : D) (a : Addr), S'.sl[i]? = some (some ⟨true, d⟩) → σ'[i]? = some (some (.ref a)) → (c.own = true ∧ v = .ref a) ∨ ((∃ d0, S.sl[i]? = some (some ⟨true, d0⟩)) ∧ σ[i]? = some (some (.ref a)))
  pinσ : ∀ (i : Nat), S.pin[i]? = some true → σ'[i]? = σ[i]?
  pinb : ∀ (i : Nat) (c : Cell), S.pin[i]? = some true → S.sl[i]? = some (some c) → ∃ c', S'.sl[i]? = some (some c')
  pin : S'.pin = S.pin
  out : ∀ (i : Nat), i ∉ L → σ'[i]? = σ[i]? ∧ S'.sl[i]? = S.sl[i]?
  lenσ : σ'.length = σ.length
def tG (g : Gh) (L : List Nat) (m : AM) : TG := fun v σ H Q => ∃ ids S Z c, Rel g ids S σ H (ZC Z c v) ∧ CellRep g ids H (OA S σ (ZC Z c v)) c v ∧ (∀ a, c.own = true → v = .ref a → ¬ Z a) ∧ match m c S with
  | some S' => ∀ σ', Sto g L ids S σ H Z c v S' σ' → Q σ' H
  | none => False
def DG (X : Cx) (g : Gh) (L : List Nat) (e : Expr) (m : AM) : Prop := PG X e (tG g L m)
theorem pg_imp {X : Cx} {e : Expr} {t t' : TG} (h : PG X e t) (i : ∀ v σ H Q, t' v σ H Q → t v σ H Q) : PG X e t' := ⟨fun pins s σ H v u Q I r q => h.run pins s σ H v u Q I r (i v σ H Q q)⟩
theorem pgs_imp {X : Cx} {e : List Expr} {t t' : TGs} (h : PGs X e t) (i : ∀ v σ H Q, t' v σ H Q → t v σ H Q) : PGs X e t' := ⟨fun pins s σ H v u Q I r q => h.run pins s σ H v u Q I r (i v σ H Q q)⟩
def setSl (i : Nat) : AM := fun c S => if S.pin[i]? = some true then none else if i < S.sl.length then some { S with sl := S.sl.set i (some c) } else none
section
variable {X : Cx} {g : Gh} {W : WX} {a b c e : Expr} {ma mb mc m : M Opn} {pos : Pos} {st : Stmt} {sts : List Stmt} {m1 m2 : SM}
theorem set_sto {ids : List Addr} {S S' : Sta} {σ : L2.St} {H : Hp} {Z : Addr → Prop} {c : Cell} {v : V} {i : Nat} (r : Rel g ids S σ H (ZC Z c v)) (hc : CellRep g ids H (OA S σ (ZC Z c v)) c v) (hz : ∀ a, c.own = true → v = .ref a → ¬ Z a)
    (h : setSl i c S = some S') : Sto g [i] ids S σ H Z c v S' (σ.set i (some v)) := by
  unfold setSl at h
  split at h
  · cases h
  · rename_i hp
    split at h
    · rename_i hi
      cases h
      have hiσ : i < σ.length := by rw [← r.len]; exact hi
      have get : ∀ {j : Nat} {x : Cell} {u : V}, (S.sl.set i (some c))[j]? = some (some x) → (σ.set i (some v))[j]? = some (some u) → (j = i ∧ x = c ∧ u = v) ∨ (j ≠ i ∧ S.sl[j]? = some (some x) ∧ σ[j]? = some (some u)) := fun {j x u} e1 e2 => by
        by_cases hj : i = j
        · subst hj
          rw [List.getElem?_set_self hi] at e1
          rw [List.getElem?_set_self hiσ] at e2
          cases e1
          cases e2
          exact .inl ⟨rfl, rfl, rfl⟩
        · rw [List.getElem?_set_ne hj] at e1 e2
          exact .inr ⟨fun z => hj z.symm, e1, e2⟩
      have own : ∀ {j : Nat} {d : D} {a : Addr}, (S.sl.set i (some c))[j]? = some (some ⟨true, d⟩) → (σ.set i (some v))[j]? = some (some (.ref a)) → (j = i ∧ c.own = true ∧ v = .ref a) ∨ (j ≠ i ∧ S.sl[j]? = some (some ⟨true, d⟩) ∧ σ[j]? = some (some (.ref a))) := fun {j d a} e1 e2 => by
        rcases get e1 e2 with ⟨z1, z2, z3⟩ | z
        · exact .inl ⟨z1, by rw [← z2], z3.symm⟩
        · exact .inr z
      have gr : ∀ b, OA { S with sl := S.sl.set i (some c) } (σ.set i (some v)) Z b → OA S σ (ZC Z c v) b := fun b z => by
        rcases z with z | ⟨j, d, e1, e2⟩
        · exact .inl (.inl z)
        · rcases own e1 e2 with ⟨_, z2, z3⟩ | ⟨_, z2, z3⟩
          · exact .inl (.inr ⟨z2, z3⟩)
          · exact .inr ⟨j, d, z2, z3⟩
      refine ⟨⟨by simp [r.len], fun j x e1 => ?_, fun j k dj dk a h1 h2 h3 h4 => ?_, fun a o z => ?_, fun a z => r.trk a (.inl z), r.cnt, r.nd, r.idt⟩, fun j d a e1 e2 => ?_, fun j hj => ?_, fun j c' hj e1 => ?_, rfl, fun j hj => ?_, by simp⟩
      · by_cases hj : i = j
        · subst hj
          rw [List.getElem?_set_self hi] at e1
          cases e1
          exact ⟨v, List.getElem?_set_self hiσ, hc.mono (fun _ _ _ _ q => q) .refl (fun a z => .inl (gr a z)) .rfl⟩
        · rw [List.getElem?_set_ne hj] at e1
          obtain ⟨u, u1, u2⟩ := r.rep j x e1
          exact ⟨u, by rw [List.getElem?_set_ne hj]; exact u1, u2.mono (fun _ _ _ _ q => q) .refl (fun a z => .inl (gr a z)) .rfl⟩
      · rcases own h1 h3 with ⟨z1, z2, z3⟩ | ⟨z1, z2, z3⟩
        · rcases own h2 h4 with ⟨y1, y2, y3⟩ | ⟨y1, y2, y3⟩
          · omega
          · exact (r.apart a ⟨k, dk, y2, y3⟩ (.inr ⟨z2, z3⟩)).elim
        · rcases own h2 h4 with ⟨y1, y2, y3⟩ | ⟨y1, y2, y3⟩
          · exact (r.apart a ⟨j, dj, z2, z3⟩ (.inr ⟨y2, y3⟩)).elim
          · exact r.inj j k dj dk a z2 y2 z3 y3
      · obtain ⟨j, d, e1, e2⟩ := o
        rcases own e1 e2 with ⟨_, z2, z3⟩ | ⟨_, z2, z3⟩
        · exact hz a z2 z3 z
        · exact r.apart a ⟨j, d, z2, z3⟩ (.inl z)
      · rcases own e1 e2 with ⟨_, z2, z3⟩ | ⟨_, z2, z3⟩
        · exact .inl ⟨z2, z3⟩
        · exact .inr ⟨⟨d, z2⟩, z3⟩
      · exact List.getElem?_set_ne fun (z : i = j) => hp (by rw [z]; exact hj)
      · exact ⟨c', by
          show (S.sl.set i (some c))[j]? = _
          rw [List.getElem?_set_ne fun (z : i = j) => hp (by rw [z]; exact hj)]
          exact e1⟩
      · have hij : i ≠ j := fun z => hj (by rw [z]; exact List.mem_singleton.mpr rfl)
        exact ⟨List.getElem?_set_ne hij, List.getElem?_set_ne hij⟩
    · cases h
theorem dg_name (i : Nat) {x : Str} (hN : X.N.Nodup) (hi : X.N[i]? = some x) (hx : Loc X.env.scope x) (hf : X.fn x = true ∨ X.env.scope.names.lookup x = some .local) : DG X g [i] (.Name x pos) (setSl i) := by
  refine pg_imp (pg_name hN hi hx hf) fun v σ H Q q => ?_
  obtain ⟨ids, S, Z, c, r, hc, hz, q⟩ := q
  cases e : setSl i c S with
  | none => rw [e] at q; exact q.elim
  | some S' =>
    rw [e] at q
    exact q _ (set_sto r hc hz e)
/-! several targets, out of a tuple -/
def tGs (g : Gh) (L : List Nat) (m : List D → Sta → Option Sta) : TGs := fun vs σ H Q => ∃ ids S Z ds, Rel g ids S σ H Z ∧ RepL g ids H (OA S σ Z) ds vs ∧ match m ds S with
  | some S' => ∀ σ', Sto g L ids S σ H Z ⟨false, .non⟩ .non S' σ' → Q σ' H
  | none => False
def DGs (X : Cx) (g : Gh) (L : List Nat) (e : List Expr) (m : List D → Sta → Option Sta) : Prop := PGs X e (tGs g L m)
theorem ZC.sh {Z : Addr → Prop} {d : D} {v : V} : ZC Z ⟨false, d⟩ v = Z := by
  funext b
  exact propext ⟨fun z => z.elim id fun z => Bool.noConfusion z.1, .inl⟩
theorem Sto.sh {L : List Nat} {ids : List Addr} {S S' : Sta} {σ σ' : L2.St} {H : Hp} {Z : Addr → Prop} {d d' : D} {v v' : V} (h : Sto g L ids S σ H Z ⟨false, d⟩ v S' σ') : Sto g L ids S σ H Z ⟨false, d'⟩ v' S' σ' :=
  ⟨h.rel, fun i d a h1 h2 => (h.own i d a h1 h2).elim (fun z => Bool.noConfusion z.1) .inr, h.pinσ, h.pinb, h.pin, h.out, h.lenσ⟩
theorem Sto.trans {L L' : List Nat} {ids : List Addr} {S S1 S2 : Sta} {σ σ1 σ2 : L2.St} {H : Hp} {Z : Addr → Prop} {d d' : D} {v v' : V} (h : Sto g L ids S σ H Z ⟨false, d⟩ v S1 σ1) (k : Sto g L' ids S1 σ1 H Z ⟨false, d'⟩ v' S2 σ2) : Sto g (L ++ L') ids S σ H Z ⟨false, d⟩ v S2 σ2 := by
  refine ⟨k.rel, fun i d a h1 h2 => ?_, fun i hi => (k.pinσ i (by rw [h.pin]; exact hi)).trans (h.pinσ i hi), fun i c hi e => ?_, k.pin.trans h.pin, fun i hi => ?_, k.lenσ.trans h.lenσ⟩
  · rcases k.own i d a h1 h2 with z | ⟨⟨d0, z1⟩, z2⟩
    · exact Bool.noConfusion z.1
    · exact h.own i d0 a z1 z2
  · obtain ⟨c1, e1⟩ := h.pinb i c hi e
    exact k.pinb i c1 (by rw [h.pin]; exact hi) e1
  · obtain ⟨h1, h2⟩ := h.out i fun z => hi (List.mem_append_left _ z)
    obtain ⟨k1, k2⟩ := k.out i fun z => hi (List.mem_append_right _ z)
    exact ⟨k1.trans h1, k2.trans h2⟩
theorem Sto.grown {L : List Nat} {ids : List Addr} {S S' : Sta} {σ σ' : L2.St} {H : Hp} {Z : Addr → Prop} {d : D} {v : V} (h : Sto g L ids S σ H Z ⟨false, d⟩ v S' σ') {a : Addr} (z : OA S' σ' Z a) : OA S σ Z a := by
  rcases z with z | ⟨i, d, e1, e2⟩
  · exact .inl z
  · rcases h.own i d a e1 e2 with z | ⟨⟨d0, z1⟩, z2⟩
    · exact Bool.noConfusion z.1
    · exact .inr ⟨i, d0, z1, z2⟩
def asgNil : List D → Sta → Option Sta := fun ds S => if ds.isEmpty = true then some S else none
def asgCons (m : AM) (ms : List D → Sta → Option Sta) : List D → Sta → Option Sta
  | [], _ => none
  | d :: ds, S => (m ⟨false, d⟩ S).bind (ms ds)
theorem dgs_nil : DGs X g [] [] asgNil := by
  refine pgs_imp pgs_nil fun vs σ H Q q => ?_
  obtain ⟨ids, S, Z, ds, r, hr, q⟩ := q
  cases ds with
  | cons d ds => exact q.elim
  | nil =>
    refine ⟨List.length_eq_zero_iff.mp hr.1, q σ ⟨r, fun i d a h1 h2 => .inr ⟨⟨d, h1⟩, h2⟩, fun _ _ => rfl, fun i c _ h => ⟨c, h⟩, rfl, fun _ _ => ⟨rfl, rfl⟩, rfl⟩⟩
theorem dgs_cons {es : List Expr} {am : AM} {ams : List D → Sta → Option Sta} {L L' : List Nat} (h : DG X g L e am) (hs : DGs X g L' es ams) (hst : (assignEach (e :: es) X.env).map (·.2) = assign e X.env :: (assignEach es X.env).map (·.2)) :
    DGs X g (L ++ L') (e :: es) (asgCons am ams) := by
  refine pgs_imp (pgs_cons h hs hst) fun vs σ H Q q => ?_
  obtain ⟨ids, S, Z, ds, r, hr, q⟩ := q
  cases ds with
  | nil => exact q.elim
  | cons d ds =>
    cases vs with
    | nil => cases hr.1
    | cons v vs =>
      refine ⟨v, vs, rfl, ids, S, Z, ⟨false, d⟩, by rw [ZC.sh]; exact r, by rw [ZC.sh]; exact hr.2 0 d v rfl rfl, fun a z => Bool.noConfusion z, ?_⟩
      dsimp only [asgCons] at q
      cases e1 : am ⟨false, d⟩ S with
      | none => rw [e1] at q; exact q.elim
      | some S1 =>
        rw [e1] at q
        intro σ1 T1
        refine ⟨ids, S1, Z, ds, T1.rel, ⟨Nat.succ.inj hr.1, fun i d' x a b => (hr.2 (i + 1) d' x a b).mono .refl (fun a z => .inl (T1.grown z)) .rfl⟩, ?_⟩
        simp only [Option.bind_some] at q
        cases e2 : ams ds S1 with
        | none => rw [e2] at q; exact q.elim
        | some S2 =>
          rw [e2] at q
          exact fun σ2 T2 => q σ2 (T1.trans T2).sh
def asgTup (ams : List D → Sta → Option Sta) (n : Nat) : AM := fun c S => match c.own, c.d with
  | false, .tup ds => if ds.length = n then ams ds S else none
  | _, _ => none
theorem dg_tup {es : List Expr} {k n : Nat} {ams : List D → Sta → Option Sta} {L : List Nat} (hcm : X.calm = true) (h : DGs X g L es ams) (hn : (assignEach es X.env).length = n) (hst : (assignEach es X.env).findIdx? (·.1) = none) : DG X g L (.Tuple es k pos) (asgTup ams n) := by
  refine pg_imp (pg_tup hcm h hn hst) fun v σ H Q q => ?_
  obtain ⟨ids, S, Z, ⟨co, cd⟩, r, hc, hz, q⟩ := q
  cases co with
  | true => exact q.elim
  | false =>
    cases cd with
    | tup ds =>
      rw [ZC.sh] at r hc
      obtain ⟨a, xs, rfl, e1, e2⟩ := hc.sh.look (O' := OA S σ Z) fun _ z => z
      dsimp only [asgTup] at q
      by_cases hl : ds.length = n
      · rw [if_pos hl] at q
        refine ⟨a, xs, rfl, .of e1, by rw [e2.1]; exact hl, ids, S, Z, ds, r, e2, ?_⟩
        cases e3 : ams ds S with
        | none => rw [e3] at q; exact q.elim
        | some S' =>
          rw [e3] at q
          exact fun σ' T => q σ' T.sh
      · rw [if_neg hl] at q
        exact q.elim
    | _ => exact q.elim
/-- target = value -/
def sAsg (m : M Opn) (am : AM) : SM := fun S => match m S with
  | .ok o S1 => match takeC S1 o with
    | some (c, S2) => match am c S2 with
      | some S3 => .nx S3
      | none => .stuck
    | none => .stuck
  | .exc x S1 => .exc x S1
  | .stuck => .stuck
theorem Sto.step {L : List Nat} {ids ids1 : List Addr} {S S1 S2 : Sta} {σ σ2 : L2.St} {H H1 : Hp} {Z : Addr → Prop} {c : Cell} {v : V} (R : Ret g ids S σ H Z c v ids1 S1 σ H1) (hn : ∀ a, c.own = true → v = .ref a → H a = none) (T : Sto g L ids1 S1 σ H1 Z c v S2 σ2) : Step ids S σ H ids1 S2 σ2 H1 := by
  refine ⟨R.st.keep, R.st.trk, fun i d a h1 h2 => ?_, fun i hi => (T.pinσ i (by rw [R.st.pin]; exact hi)).trans (R.st.pinσ i hi), fun i c hi e => ?_, T.pin.trans R.st.pin, R.st.ids⟩
  · rcases T.own i d a h1 h2 with ⟨z1, z2⟩ | ⟨⟨d0, z1⟩, z2⟩
    · exact .inl (hn a z1 z2)
    · exact R.st.own i d0 a z1 z2
  · obtain ⟨c1, e1⟩ := R.st.pinb i c hi e
    exact T.pinb i c1 (by rw [R.st.pin]; exact hi) e1
/-- from an operand at hand to a store, then a rest -/
theorem take_sto {D' : Ends} {ids ids1 : List Addr} {S S1 S2 : Sta} {σ : L2.St} {H H1 : Hp} {Z : Addr → Prop} {o : Opn} {v : V} {c : Cell} {am : AM} {L : List Nat} {tg : TG} (ht : ∀ v σ H Q, tG g L am v σ H Q → tg v σ H Q) (r0 : Rel g ids S σ H Z) (A : Aft g ids S σ H Z [o] [v] ids1 S1 H1)
    (e : Ov.takeC S1 o = some (c, S2)) (q : WpS g W ids S σ H Z D' (match am c S2 with | some S3 => .nx S3 | none => .stuck)) : tg v σ H1 D'.nx := by
  have B := A.takeC e
  have R := B.ret
  have hn : ∀ a, c.own = true → v = .ref a → H a = none := fun a h1 h2 => by
    obtain ⟨k, d⟩ := c
    have e : k = true := h1
    subst e
    exact B.new 0 d a rfl (by rw [h2]; rfl)
  refine ht v σ H1 _ ⟨ids1, S2, Z, c, R.rel, R.res, fun a h1 h2 z => r0.trk a z (hn a h1 h2), ?_⟩
  cases e3 : am c S2 with
  | none => rw [e3] at q; exact q.elim
  | some S3 =>
    rw [e3] at q
    exact fun σ' T => q σ' H1 ids1 (Sto.step R hn T) T.rel
theorem ds_asg {tg : Expr} {am : AM} {L : List Nat} (he : DE X g W e m) (hg : DG X g L tg am) (hs : swapsWithSole [tg] e pos.line X.env = pure false) (hw : swappedStores [tg] e X.env = pure none)
    (h1 : (assignEach [tg] X.env).map (·.2) = [assign tg X.env]) : DS X g W (.Assign [tg] e pos) (sAsg m am) := by
  refine ps_imp (ps_asg he hg hs hw h1) fun D' σ H q => ?_
  obtain ⟨ids, S, Z, r, q⟩ := q
  refine tD_wp.mpr ⟨ids, S, Z, r, ?_⟩
  unfold sAsg at q
  cases e : m S with
  | ok o S1 =>
    rw [e] at q
    dsimp only at q
    intro v H1 ids1 A
    cases e2 : Ov.takeC S1 o with
    | none => rw [e2] at q; exact q.elim
    | some p =>
      obtain ⟨c, S2⟩ := p
      rw [e2] at q
      exact take_sto (fun _ _ _ _ q => q) r A e2 q
  | exc x S1 =>
    rw [e] at q
    exact fun cls d H1 ids1 A => q cls d σ H1 ids1 A.sx
  | stuck => rw [e] at q; exact q
theorem ds_set {i : Nat} {x : Str} {p : Pos} (hN : X.N.Nodup) (hi : X.N[i]? = some x) (hx : Loc X.env.scope x) (hf : X.fn x = true ∨ X.env.scope.names.lookup x = some .local) (he : DE X g W e m) (hs : swapsWith e (some (.Name x p)) pos.line X.env = pure false) :
    DS X g W (.Assign [.Name x p] e pos) (sAsg m (setSl i)) := by
  refine ps_imp (ps_set hN hi hx he hs hf) fun D' σ H q => ?_
  obtain ⟨ids, S, Z, r, q⟩ := q
  refine tD_wp.mpr ⟨ids, S, Z, r, ?_⟩
  unfold sAsg at q
  cases e : m S with
  | ok o S1 =>
    rw [e] at q
    dsimp only at q
    intro v H1 ids1 A
    cases e2 : Ov.takeC S1 o with
    | none => rw [e2] at q; exact q.elim
    | some p =>
      obtain ⟨c, S2⟩ := p
      rw [e2] at q
      refine take_sto (am := setSl i) (L := [i]) (tg := gName i) (fun v σ H Q q => ?_) r A e2 q
      obtain ⟨ids, S, Z, c, r, hc, hz, q⟩ := q
      cases e : setSl i c S with
      | none => rw [e] at q; exact q.elim
      | some S' =>
        rw [e] at q
        exact q _ (set_sto r hc hz e)
  | exc x S1 =>
    rw [e] at q
    exact fun cls d H1 ids1 A => q cls d σ H1 ids1 A.sx
  | stuck => rw [e] at q; exact q

/-! ### what a loop walks -/
/-- J yields the items ds from H on, as long as what is not in O stands -/
def ItOk (g : Gh) (ids : List Addr) (J : It) (H : Hp) (O : Addr → Prop) (ds : List D) : Prop :=
  ∀ ids2 H2 (O2 : Addr → Prop), Ids ids ids2 → Kept H H2 O → Grown H O O2 → (∀ a, O2 a → H2 a ≠ none) →
    (∀ i, i < ds.length → J.go i H2) ∧ (∀ i, ds.length ≤ i → J.stop i H2) ∧
    ∀ i x H3, i < ds.length → J.yld i H2 x H3 → ∃ d, ds[i]? = some d ∧ Rep g ids2 H3 O2 d x ∧ (∀ a o, H2 a = some o → H3 a = some o)
def tI (g : Gh) (W : WX) (m : M (List D)) : TI := fun σ H R => ∃ ids S Z, Rel g ids S σ H Z ∧ match m S with
  | .ok ds S' => ∀ J H' ids', Aft g ids S σ H Z [] [] ids' S' H' → ItOk g ids' J H' (OA S' σ Z) ds → R J H'
  | .exc x S' => ∀ cls d H' ids', AftX g ids S σ H Z x cls d ids' S' H' → W cls d σ H'
  | .stuck => False
def DI (X : Cx) (g : Gh) (W : WX) (tg iter : Expr) (m : M (List D)) : Prop := PI X tg iter (tI g W m)
theorem pi_imp {tg iter : Expr} {t t' : TI} (h : PI X tg iter t) (i : ∀ σ H Q, t' σ H Q → t σ H Q) : PI X tg iter t' := ⟨fun pins s σ H R I q => h.run pins s σ H R I (i σ H R q)⟩
def itemsOf : D → Option (List D)
  | .lst ds => some ds
  | .tup ds => some ds
  | .str x => some (x.cps.toList.map fun c => .str ⟨#[c]⟩)
  | .scr ns => some (ns.map .int)
  | _ => none
/-- over a thing at hand -/
def mSrc (m : M Opn) : M (List D) := M.bind m fun o S => match (curD S o).bind itemsOf with
  | some ds => .ok ds (frz S o)
  | none => .stuck
theorem itl_ok {ids : List Addr} {H : Hp} {O : Addr → Prop} {a : Addr} {xs : List V} {ds : List D} (h : H a = some (.lst xs)) (ho : ¬ O a) (r : RepL g ids H O ds xs) : ItOk g ids (Itl X.K a) H O ds := by
  intro ids2 H2 O2 hi hk hg ht
  have h2 := hk a _ h ho
  have sq : ∀ {ys}, SqL X.K H2 a ys → ys = xs ∨ ∃ (o : Obj) (its : Array Value) (n : Nat), X.K.lookup a = some o ∧ o.cls = .type "list" ∧ o.dict = none ∧ o.data = .seq its n ∧ its.size ≤ sizeLine ∧ Vals ys its.toList := fun {ys} q => by
    rcases q with (q | ⟨o, q⟩) | q
    · rw [h2] at q; cases q; exact .inl rfl
    · rw [h2] at q; cases q
    · exact .inr q
  refine ⟨fun i hl => ⟨xs, xs[i]'(by rw [r.1]; exact hl), .of h2, List.getElem?_eq_getElem (by rw [r.1]; exact hl)⟩, fun i hl => ⟨xs, .of h2, by rw [r.1]; exact hl⟩, fun i x H3 hl y => ?_⟩
  obtain ⟨e, y⟩ := y
  subst e
  exact ⟨ds[i], List.getElem?_eq_getElem hl, (r.2 i _ x (List.getElem?_eq_getElem hl) (y xs (.of h2))).mono hk hg hi, fun _ _ e => e⟩
theorem itt_ok {ids : List Addr} {H : Hp} {O : Addr → Prop} {a : Addr} {xs : List V} {ds : List D} (h : H a = some (.tup xs)) (ho : ¬ O a) (r : RepL g ids H O ds xs) : ItOk g ids (Itt X.K a) H O ds := by
  intro ids2 H2 O2 hi hk hg ht
  have h2 := hk a _ h ho
  refine ⟨fun i hl => ⟨xs, xs[i]'(by rw [r.1]; exact hl), .of h2, List.getElem?_eq_getElem (by rw [r.1]; exact hl)⟩, fun i hl => ⟨xs, .of h2, by rw [r.1]; exact hl⟩, fun i x H3 hl y => ?_⟩
  obtain ⟨e, y⟩ := y
  subst e
  exact ⟨ds[i], List.getElem?_eq_getElem hl, (r.2 i _ x (List.getElem?_eq_getElem hl) (y xs (.of h2))).mono hk hg hi, fun _ _ e => e⟩
theorem its_ok {ids : List Addr} {H : Hp} {O : Addr → Prop} {x : Str} : ItOk g ids (Its x) H O (x.cps.toList.map fun c => .str ⟨#[c]⟩) := by
  intro ids2 H2 O2 hi hk hg ht
  refine ⟨fun i hl => ?_, fun i hl => ?_, fun i v H3 hl y => ?_⟩
  · show i < x.cps.size
    simpa using hl
  · show x.cps.size ≤ i
    simpa using hl
  · obtain ⟨e, c, y1, y2⟩ := y
    subst e y2
    refine ⟨.str ⟨#[c]⟩, ?_, .str _, fun _ _ e => e⟩
    rw [List.getElem?_map, Array.getElem?_toList, y1]
    rfl
theorem itr_ok {ids : List Addr} {H : Hp} {O : Addr → Prop} {lo : Int} {n : Nat} : ItOk g ids (Itr lo n) H O ((List.range n).map fun (k : Nat) => .int (lo + k)) := by
  intro ids2 H2 O2 hi hk hg ht
  refine ⟨fun i hl => ?_, fun i hl => ?_, fun i v H3 hl y => ?_⟩
  · show i < n
    simpa using hl
  · show n ≤ i
    simpa using hl
  · obtain ⟨e, y⟩ := y
    subst e y
    refine ⟨.int (lo + i), ?_, .int _, fun _ _ e => e⟩
    have hl' : i < n := by simpa using hl
    rw [List.getElem?_map, List.getElem?_range hl']
    rfl
theorem di_src {tg : Expr} (B : g.K = X.K) (h : DE X g W e m) : DI X g W tg e (mSrc m) := by
  refine ⟨fun pins s σ H R I q => ?_⟩
  obtain ⟨ids, S, Z, r, q⟩ := q
  unfold mSrc M.bind at q
  cases e1 : m S with
  | stuck => rw [e1] at q; exact q.elim
  | exc x S1 =>
    rw [e1] at q
    refine (pi_list h).run pins s σ H R I (tD_wp.mpr ⟨ids, S, Z, r, ?_⟩)
    rw [e1]
    exact q
  | ok o S1 =>
    rw [e1] at q
    dsimp only at q
    cases e2 : curD S1 o with
    | none => rw [e2] at q; exact q.elim
    | some d =>
      rw [e2] at q
      simp only [Option.bind_some] at q
      have tk : ∀ {v H1 ids1}, Aft g ids S σ H Z [o] [v] ids1 S1 H1 → Rep g ids1 H1 (OA (frz S1 o) σ Z) d v ∧ Aft g ids S σ H Z [] [] ids1 (frz S1 o) H1 := fun {v H1 ids1} A => by
        have hm : [o].mapM (curD S1) = some [d] := by
          simp [List.mapM_cons, e2]
        obtain ⟨z1, z2⟩ := A.taken r hm
        exact ⟨z1.2 0 d v rfl rfl, z2.drop⟩
      cases d with
      | lst ds =>
        refine (pi_list h).run pins s σ H R I (tD_wp.mpr ⟨ids, S, Z, r, ?_⟩)
        rw [e1]
        intro v H1 ids1 A
        obtain ⟨hr, A'⟩ := tk A
        cases hr with
        | lst h1 h2 h3 h4 => exact ⟨_, rfl, ⟨_, .of h1⟩, q _ H1 ids1 A' (itl_ok h1 h2 ⟨h3, h4⟩)⟩
      | tup ds =>
        refine (pi_tup h).run pins s σ H R I (tD_wp.mpr ⟨ids, S, Z, r, ?_⟩)
        rw [e1]
        intro v H1 ids1 A
        obtain ⟨hr, A'⟩ := tk A
        cases hr with
        | tup h1 h2 h3 h4 => exact ⟨_, rfl, ⟨_, .of h1⟩, q _ H1 ids1 A' (itt_ok h1 h2 ⟨h3, h4⟩)⟩
      | str x =>
        refine (pi_str h).run pins s σ H R I (tD_wp.mpr ⟨ids, S, Z, r, ?_⟩)
        rw [e1]
        intro v H1 ids1 A
        obtain ⟨hr, A'⟩ := tk A
        cases hr
        exact ⟨x, rfl, q _ H1 ids1 A' its_ok⟩
      | scr ns =>
        refine (pi_list h).run pins s σ H R I (tD_wp.mpr ⟨ids, S, Z, r, ?_⟩)
        rw [e1]
        intro v H1 ids1 A
        obtain ⟨hr, A'⟩ := tk A
        cases hr with
        | scr h1 =>
          rename_i a
          refine ⟨_, rfl, ⟨ns.map V.int, ?_⟩, q _ H1 ids1 A' ?_⟩
          · rcases h1 with ⟨o, h1, _⟩ | h1
            · exact .inl (.inr ⟨o, h1⟩)
            · exact .inr (B ▸ h1)
          · intro ids2 H2 O2 hi hk hg ht
            have h2 : SqL X.K H2 a (ns.map V.int) := by
              rcases h1 with ⟨o, h1, h3⟩ | h1
              · exact .inl (.inr ⟨o, hk a _ h1 h3⟩)
              · exact .inr (B ▸ h1)
            refine ⟨fun i hl => ⟨_, .int (ns[i]'(by simpa using hl)), h2, ?_⟩, fun i hl => ⟨_, h2, by simpa using hl⟩, fun i x H3 hl y => ?_⟩
            · have hl' : i < ns.length := by simpa using hl
              rw [List.getElem?_map, List.getElem?_eq_getElem hl']
              rfl
            · obtain ⟨e, y⟩ := y
              subst e
              have hl' : i < ns.length := by simpa using hl
              have z := y _ h2
              rw [List.getElem?_map, List.getElem?_eq_getElem hl'] at z
              have z' : V.int ns[i] = x := Option.some.inj z
              subst z'
              refine ⟨.int ns[i], ?_, .int _, fun _ _ e => e⟩
              rw [List.getElem?_map, List.getElem?_eq_getElem hl']
              rfl
      | _ => exact q.elim
end
end Ov


set_option Elab.async false
set_option linter.all false
set_option maxRecDepth 100000
set_option maxHeartbeats 4000000
namespace Ov
open PySem PySem.Spec PyProof.Rows L2

/-- a loop over items -/
def loopM (am : AM) (body : SM) : List D → SM
  | [] => fun S => .nx S
  | d :: ds => fun S => match am ⟨false, d⟩ S with
    | none => .stuck
    | some S1 => match body S1 with
      | .nx S2 => loopM am body ds S2
      | .ct S2 => loopM am body ds S2
      | .bk S2 => .nx S2
      | r => r
def sFor (mi : M (List D)) (am : AM) (body : SM) : SM := fun S => match mi S with
  | .ok ds S1 => loopM am body ds S1
  | .exc x S1 => .exc x S1
  | .stuck => .stuck
def whileM (c : M Bool) (body : SM) : Nat → SM
  | 0 => fun _ => .stuck
  | n + 1 => fun S => match c S with
    | .ok true S1 => match body S1 with
      | .nx S2 => whileM c body n S2
      | .ct S2 => whileM c body n S2
      | .bk S2 => .nx S2
      | r => r
    | .ok false S1 => .nx S1
    | .exc x S1 => .exc x S1
    | .stuck => .stuck
section
variable {X : Cx} {g : Gh} {W : WX} {a b c e : Expr} {ma mb mc m : M Opn} {pos : Pos} {st : Stmt} {sts : List Stmt} {m1 m2 : SM}
theorem Aft.rel0 {ids ids1 : List Addr} {S S1 : Sta} {σ : L2.St} {H H1 : Hp} {Z : Addr → Prop} {os : List Opn} {vs : List V} (A : Aft g ids S σ H Z os vs ids1 S1 H1) : Rel g ids1 S1 σ H1 Z := A.rel.less fun _ z => .inl z
/-- Step's growth of what is owned -/
theorem Step.grown {ids ids1 : List Addr} {S S1 : Sta} {σ σ1 : L2.St} {H H1 : Hp} {Z : Addr → Prop} (T : Step ids S σ H ids1 S1 σ1 H1) : Grown H (OA S σ Z) (OA S1 σ1 Z) := fun a z => by
  rcases z with z | z
  · exact .inl (.inl z)
  · rcases T.ownA z with z | z
    · exact .inr z
    · exact .inl (.inr z)
theorem Rel.oTrk {ids : List Addr} {S : Sta} {σ : L2.St} {H : Hp} {Z : Addr → Prop} (r : Rel g ids S σ H Z) (a : Addr) (z : OA S σ Z a) : H a ≠ none := z.elim (r.trk a) r.ownTrk
/-- objects have come -/
theorem Rel.heap {ids : List Addr} {S : Sta} {σ : L2.St} {H H1 : Hp} {Z : Addr → Prop} (r : Rel g ids S σ H Z) (k : ∀ a o, H a = some o → H1 a = some o) : Rel g ids S σ H1 Z := by
  have t : ∀ a, H a ≠ none → H1 a ≠ none := fun a h z => by
    cases e : H a with
    | none => exact h e
    | some o => rw [k a o e] at z; cases z
  refine ⟨r.len, fun i c e => ?_, r.inj, r.apart, fun a z => t a (r.trk a z), r.cnt, r.nd, fun a h => t a (r.idt a h)⟩
  obtain ⟨v, e1, e2⟩ := r.rep i c e
  exact ⟨v, e1, e2.mono (fun _ a u _ q => k a u q) (fun a o e _ => k a o e) (fun a z => .inl z) .rfl⟩
theorem Step.heap {ids : List Addr} {S : Sta} {σ : L2.St} {H H1 : Hp} (k : ∀ a o, H a = some o → H1 a = some o) : Step ids S σ H ids S σ H1 := by
  refine ⟨fun a o e _ => k a o e, fun a h z => ?_, fun i d a h1 h2 => .inr ⟨⟨d, h1⟩, h2⟩, fun _ _ => rfl, fun i c _ h => ⟨c, h⟩, rfl, .rfl⟩
  cases e : H a with
  | none => exact h e
  | some o => rw [k a o e] at z; cases z
theorem ds_for {tg iter : Expr} {am : AM} {L : List Nat} {mi : M (List D)} {body : List Stmt} (hp : PassesOwn (model X.prog X.w) X.A X.env X.xe) (hc : X.calm = true) (hi : DI X g W tg iter mi) (hg : DG X g L tg am) (hb : DSs X g W body m1)
    (hs : ∀ x, foldedSetIterable iter X.env x = pure x) : DS X g W (.For tg iter body [] pos) (sFor mi am m1) := by
  refine ps_imp (ps_for hp hc hi hg hb hs) fun D' σ H q => ?_
  obtain ⟨ids, S, Z, r, q⟩ := q
  refine ⟨ids, S, Z, r, ?_⟩
  unfold sFor at q
  cases e : mi S with
  | stuck => rw [e] at q; exact q.elim
  | exc x S1 =>
    rw [e] at q
    exact fun cls d H1 ids1 A => q cls d σ H1 ids1 A.sx
  | ok ds S1 =>
    rw [e] at q
    dsimp only at q
    intro J H1 ids1 A it
    have r1 := A.rel0
    have T1 := A.step
    refine ⟨fun i m σ2 H2 => m = ds.length - i ∧ i ≤ ds.length ∧ ∃ ids2 S2, Step ids1 S1 σ H1 ids2 S2 σ2 H2 ∧ Rel g ids2 S2 σ2 H2 Z ∧ loopM am m1 (ds.drop i) S2 = loopM am m1 ds S1, ⟨ds.length, by simp, Nat.zero_le _, ids1, S1, .refl, r1, by rw [List.drop_zero]⟩, ?_⟩
    rintro i m σ2 H2 ⟨rfl, hi, ids2, S2, T2, r2, el⟩
    have kp : Kept H1 H2 (OA S1 σ Z) := fun a o e n => T2.keep a o e fun z => n (.inr z)
    obtain ⟨i1, i2, i3⟩ := it ids2 H2 (OA S2 σ2 Z) T2.ids kp T2.grown r2.oTrk
    have T12 := T1.trans T2
    rw [← el] at q
    by_cases hlt : i < ds.length
    · refine .inr ⟨i1 i hlt, fun σ' H' => ∃ ids' S', Step ids1 S1 σ H1 ids' S' σ' H' ∧ Rel g ids' S' σ' H' Z ∧ loopM am m1 (ds.drop (i + 1)) S' = loopM am m1 ds S1, fun σ' H' ⟨ids', S', z1, z2, z3⟩ => ⟨ds.length - (i + 1), by omega, rfl, hlt, ids', S', z1, z2, z3⟩, fun x H3 y => ?_⟩
      obtain ⟨d, hd, hr, hk⟩ := i3 i x H3 hlt y
      have r3 := r2.heap hk
      have T3 : Step ids2 S2 σ2 H2 ids2 S2 σ2 H3 := .heap hk
      have ed : ds.drop i = d :: ds.drop (i + 1) := by
        obtain ⟨h1, h2⟩ := List.getElem?_eq_some_iff.mp hd
        rw [List.drop_eq_getElem_cons h1, h2]
      rw [ed] at q el
      dsimp only [loopM] at q el
      refine ⟨ids2, S2, Z, ⟨false, d⟩, by rw [ZC.sh]; exact r3, by rw [ZC.sh]; exact hr, fun a z => Bool.noConfusion z, ?_⟩
      cases e3 : am ⟨false, d⟩ S2 with
      | none => rw [e3] at q; exact q.elim
      | some S3 =>
        rw [e3] at q el
        dsimp only at q el
        intro σ3 T4
        have T4' : Step ids2 S2 σ2 H3 ids2 S3 σ3 H3 := Sto.step (c := ⟨false, d⟩) (v := x) ⟨by rw [ZC.sh]; exact r3, by rw [ZC.sh]; exact hr, fun a z => Bool.noConfusion z, .refl⟩ (fun a z => Bool.noConfusion z) T4
        have T5 := T12.trans (T3.trans T4')
        refine ⟨ids2, S3, Z, T4.rel, ?_⟩
        have fin : ∀ {S' : Sta}, loopM am m1 (ds.drop (i + 1)) S' = loopM am m1 ds S1 → ∀ σ' H' ids', Step ids2 S3 σ3 H3 ids' S' σ' H' → Rel g ids' S' σ' H' Z → ∃ ids' S', Step ids1 S1 σ H1 ids' S' σ' H' ∧ Rel g ids' S' σ' H' Z ∧ loopM am m1 (ds.drop (i + 1)) S' = loopM am m1 ds S1 :=
          fun {S'} z σ' H' ids' T r => ⟨ids', S', (T2.trans (T3.trans T4')).trans T, r, z⟩
        cases e4 : m1 S3 with
        | nx S4 => rw [e4] at el; exact fin el
        | ct S4 => rw [e4] at el; exact fin el
        | bk S4 =>
          rw [e4] at q
          exact fun σ' H' ids' T r => q σ' H' ids' (T5.trans T) r
        | rt c S4 =>
          rw [e4] at q
          exact fun v σ' H' ids' R => q v σ' H' ids' (.behind T5 R)
        | exc x S4 =>
          rw [e4] at q
          exact fun cls d σ' H' ids' R => q cls d σ' H' ids' (.behind T5 R)
        | stuck => rw [e4] at q; exact q
    · refine .inl ⟨i2 i (by omega), ?_⟩
      have ed : ds.drop i = [] := List.drop_eq_nil_of_le (by omega)
      rw [ed] at q
      exact q σ2 H2 ids2 T12 r2
theorem ds_while {mc : M Bool} {body : List Stmt} (N : Nat) (hp : PassesOwn (model X.prog X.w) X.A X.env X.xe) (hc : DT X g W c mc) (hb : DSs X g W body m1) : DS X g W (.While c body [] pos) (whileM mc m1 N) := by
  refine ps_imp (ps_while hp hc hb) fun D' σ H q => ?_
  obtain ⟨ids, S, Z, r, q⟩ := q
  refine ⟨fun n σ2 H2 => ∃ ids2 S2, Step ids S σ H ids2 S2 σ2 H2 ∧ Rel g ids2 S2 σ2 H2 Z ∧ WpS g W ids S σ H Z D' (whileM mc m1 n S2), ⟨N, ids, S, .refl, r, q⟩, ?_⟩
  rintro n σ2 H2 ⟨ids2, S2, T2, r2, q⟩
  cases n with
  | zero => exact q.elim
  | succ n =>
    dsimp only [whileM] at q
    refine tDt_wp.mpr ⟨ids2, S2, Z, r2, ?_⟩
    cases e : mc S2 with
    | stuck => rw [e] at q; exact q.elim
    | exc x S3 =>
      rw [e] at q
      exact fun cls d H3 ids3 A => q cls d σ2 H3 ids3 (.behind T2 A.sx)
    | ok k S3 =>
      rw [e] at q
      intro H3 ids3 A
      have r3 := A.rel0
      have T3 := T2.trans A.step
      cases k with
      | false =>
        rw [if_neg Bool.false_ne_true]
        exact q σ2 H3 ids3 T3 r3
      | true =>
        rw [if_pos rfl]
        dsimp only at q
        refine ⟨fun σ' H' => ∃ ids' S', Step ids S σ H ids' S' σ' H' ∧ Rel g ids' S' σ' H' Z ∧ WpS g W ids S σ H Z D' (whileM mc m1 n S'), fun σ' H' z => ⟨n, Nat.lt_succ_self n, z⟩, ids3, S3, Z, r3, ?_⟩
        cases e4 : m1 S3 with
        | nx S4 => rw [e4] at q; exact fun σ' H' ids' T r => ⟨ids', S4, T3.trans T, r, q⟩
        | ct S4 => rw [e4] at q; exact fun σ' H' ids' T r => ⟨ids', S4, T3.trans T, r, q⟩
        | bk S4 =>
          rw [e4] at q
          exact fun σ' H' ids' T r => q σ' H' ids' (T3.trans T) r
        | rt c S4 =>
          rw [e4] at q
          exact fun v σ' H' ids' R => q v σ' H' ids' (.behind T3 R)
        | exc x S4 =>
          rw [e4] at q
          exact fun cls d σ' H' ids' R => q cls d σ' H' ids' (.behind T3 R)
        | stuck => rw [e4] at q; exact q
/-! range -/
def rngOk (i : Int) : Bool := decide (-(2 ^ 62) ≤ i ∧ i < 2 ^ 62)
def mRange1 (ms : M (List Opn)) : M (List D) := M.bind ms fun os S => match os.mapM (curD S) with
  | some [.int j] => if rngOk j = true then .ok ((List.range j.toNat).map fun (k : Nat) => .int (0 + k)) S else .stuck
  | _ => .stuck
def mRange2 (ms : M (List Opn)) : M (List D) := M.bind ms fun os S => match os.mapM (curD S) with
  | some [.int i, .int j] => if rngOk i = true ∧ rngOk j = true then .ok ((List.range (j - i).toNat).map fun (k : Nat) => .int (i + k)) S else .stuck
  | _ => .stuck
theorem looks_one {ids : List Addr} {H : Hp} {O : Addr → Prop} {d : D} {vs : List V} (h : Looks g ids H O [d] vs) : ∃ v, vs = [v] ∧ Look g ids H O d v := by
  cases h with
  | cons h t => cases t; exact ⟨_, rfl, h⟩
theorem looks_two {ids : List Addr} {H : Hp} {O : Addr → Prop} {d e : D} {vs : List V} (h : Looks g ids H O [d, e] vs) : ∃ v w, vs = [v, w] ∧ Look g ids H O d v ∧ Look g ids H O e w := by
  cases h with
  | cons h t =>
    obtain ⟨w, rfl, h2⟩ := looks_one t
    exact ⟨_, w, rfl, h, h2⟩
theorem di_range1 {tg : Expr} {ms : M (List Opn)} {p : Pos} (hg : Gl X "range") (hm : X.mg "range" = none) (ha : DA X g W [a] ms) (hs : starEach [a] X.env = [(false, eval a X.env)]) : DI X g W tg (.Call (.Name "range" p) [a] [] pos) (mRange1 ms) := by
  refine pi_imp (pi_range1 hg hm ha hs) fun σ H R q => ?_
  obtain ⟨ids, S, Z, r, q⟩ := q
  refine tDs_wp.mpr ⟨ids, S, Z, r, ?_⟩
  unfold mRange1 M.bind at q
  cases e : ms S with
  | stuck => rw [e] at q; exact q
  | exc x S1 => rw [e] at q; exact q
  | ok os S1 =>
    rw [e] at q
    dsimp only at q
    intro vs H1 ids1 A
    cases e2 : os.mapM (curD S1) with
    | none => rw [e2] at q; exact q.elim
    | some ds =>
      rw [e2] at q
      have l := looks_of A e2
      match ds, q, l with
      | [.int j], q, l =>
        obtain ⟨v, rfl, hv⟩ := looks_one l
        cases hv
        dsimp only at q
        by_cases hj : rngOk j = true
        · rw [if_pos hj] at q
          have hj' := of_decide_eq_true hj
          exact ⟨j, rfl, hj'.1, hj'.2, q _ H1 ids1 A.drop itr_ok⟩
        · rw [if_neg hj] at q
          exact q.elim
theorem di_range2 {tg : Expr} {ms : M (List Opn)} {p : Pos} (hg : Gl X "range") (hm : X.mg "range" = none) (ha : DA X g W [a, b] ms) (hs : starEach [a, b] X.env = [(false, eval a X.env), (false, eval b X.env)]) (hs2 : starEach [b] X.env = [(false, eval b X.env)]) :
    DI X g W tg (.Call (.Name "range" p) [a, b] [] pos) (mRange2 ms) := by
  refine pi_imp (pi_range2 hg hm ha hs hs2) fun σ H R q => ?_
  obtain ⟨ids, S, Z, r, q⟩ := q
  refine tDs_wp.mpr ⟨ids, S, Z, r, ?_⟩
  unfold mRange2 M.bind at q
  cases e : ms S with
  | stuck => rw [e] at q; exact q
  | exc x S1 => rw [e] at q; exact q
  | ok os S1 =>
    rw [e] at q
    dsimp only at q
    intro vs H1 ids1 A
    cases e2 : os.mapM (curD S1) with
    | none => rw [e2] at q; exact q.elim
    | some ds =>
      rw [e2] at q
      have l := looks_of A e2
      match ds, q, l with
      | [.int i, .int j], q, l =>
        obtain ⟨v, w, rfl, hv, hw⟩ := looks_two l
        cases hv
        cases hw
        dsimp only at q
        by_cases hj : rngOk i = true ∧ rngOk j = true
        · rw [if_pos hj] at q
          have h1 := of_decide_eq_true hj.1
          have h2 := of_decide_eq_true hj.2
          exact ⟨i, j, rfl, ⟨h1.1, h1.2, h2.1, h2.2⟩, q _ H1 ids1 A.drop itr_ok⟩
        · rw [if_neg hj] at q
          exact q.elim
end
end Ov


set_option Elab.async false
set_option linter.all false
set_option maxRecDepth 100000
set_option maxHeartbeats 4000000
namespace Ov
open PySem PySem.Spec PyProof.Rows L2

/-! ### list comprehensions -/
def wipeL {α : Type} (l : List (Option α)) : List Nat → List (Option α)
  | [] => l
  | v :: vs => (wipeL l vs).set v none
def wipeS (S : Sta) (vs : List Nat) : Sta := { S with sl := wipeL S.sl vs }
def restL {α : Type} (l0 l : List (Option α)) : List Nat → List (Option α)
  | [] => l
  | v :: vs => (restL l0 l vs).set v (l0[v]?.join)
def restS (S0 S : Sta) (vs : List Nat) : Sta := { S with sl := restL S0.sl S.sl vs }
theorem wipeL_len {α : Type} {l : List (Option α)} : ∀ {vs : List Nat}, (wipeL l vs).length = l.length
  | [] => rfl
  | v :: vs => by unfold wipeL; rw [List.length_set, wipeL_len]
theorem restL_len {α : Type} {l0 l : List (Option α)} : ∀ {vs : List Nat}, (restL l0 l vs).length = l.length
  | [] => rfl
  | v :: vs => by unfold restL; rw [List.length_set, restL_len]
theorem wipeL_out {α : Type} {l : List (Option α)} {i : Nat} : ∀ {vs : List Nat}, i ∉ vs → (wipeL l vs)[i]? = l[i]?
  | [], _ => rfl
  | v :: vs, h => by
    unfold wipeL
    rw [List.getElem?_set_ne fun z => h (by rw [z]; exact List.mem_cons_self)]
    exact wipeL_out fun z => h (List.mem_cons_of_mem _ z)
theorem wipeL_in {α : Type} {l : List (Option α)} {i : Nat} {x : α} : ∀ {vs : List Nat}, i ∈ vs → (wipeL l vs)[i]? ≠ some (some x)
  | v :: vs, h => by
    intro e
    unfold wipeL at e
    by_cases hv : v = i
    · subst hv
      by_cases hl : v < (wipeL l vs).length
      · rw [List.getElem?_set_self hl] at e; cases e
      · rw [List.getElem?_eq_none (by simpa using hl)] at e; cases e
    · rw [List.getElem?_set_ne hv] at e
      rcases List.mem_cons.mp h with z | z
      · exact hv z.symm
      · exact wipeL_in z e
theorem restL_out {α : Type} {l0 l : List (Option α)} {i : Nat} : ∀ {vs : List Nat}, i ∉ vs → (restL l0 l vs)[i]? = l[i]?
  | [], _ => rfl
  | v :: vs, h => by
    unfold restL
    rw [List.getElem?_set_ne fun z => h (by rw [z]; exact List.mem_cons_self)]
    exact restL_out fun z => h (List.mem_cons_of_mem _ z)
theorem restL_in {α : Type} {l0 l : List (Option α)} {i : Nat} {x : α} (hl : l.length = l0.length) : ∀ {vs : List Nat}, i ∈ vs → (restL l0 l vs)[i]? = some (some x) → l0[i]? = some (some x)
  | v :: vs, h, e => by
    unfold restL at e
    by_cases hv : v = i
    · subst hv
      by_cases hb : v < (restL l0 l vs).length
      · rw [List.getElem?_set_self hb] at e
        have e' : l0[v]?.join = some x := Option.some.inj e
        cases q : l0[v]? with
        | none => rw [q] at e'; cases e'
        | some o =>
          rw [q] at e'
          have e2 : o = some x := e'
          rw [e2]
      · rw [List.getElem?_eq_none (by simpa using hb)] at e; cases e
    · rw [List.getElem?_set_ne hv] at e
      rcases List.mem_cons.mp h with z | z
      · exact (hv z.symm).elim
      · exact restL_in hl z e
theorem wipe_eq (σ : L2.St) : ∀ vs : List Nat, wipe σ vs = wipeL σ vs
  | [] => rfl
  | v :: vs => by unfold wipe wipeL; rw [wipe_eq σ vs]
/-- wiping forgets what the slots vs held -/
theorem wipeL_same {α : Type} {l l' : List (Option α)} {vs : List Nat} (hl : l'.length = l.length) (h : ∀ i, i ∉ vs → l'[i]? = l[i]?) : wipeL l' vs = wipeL l vs := by
  apply List.ext_getElem?
  intro i
  by_cases hi : i ∈ vs
  · have key : ∀ l : List (Option α), (wipeL l vs)[i]? = if i < l.length then some none else none := fun l => by
      by_cases hb : i < l.length
      · rw [if_pos hb]
        have e : (wipeL l vs)[i]? = some ((wipeL l vs)[i]'(by rw [wipeL_len]; exact hb)) := List.getElem?_eq_getElem _
        cases q : (wipeL l vs)[i]'(by rw [wipeL_len]; exact hb) with
        | none => rw [e, q]
        | some x => rw [q] at e; exact (wipeL_in hi e).elim
      · rw [if_neg hb]
        exact List.getElem?_eq_none (by rw [wipeL_len]; omega)
    rw [key, key, hl]
  · rw [wipeL_out hi, wipeL_out hi, h i hi]
def noOwn (S : Sta) (vs : List Nat) : Bool := vs.all fun v => match S.sl[v]? with
  | some (some c) => !c.own
  | _ => true
theorem noOwn_at {S : Sta} {vs : List Nat} {i : Nat} {d : D} (h : noOwn S vs = true) (hi : i ∈ vs) : S.sl[i]? ≠ some (some ⟨true, d⟩) := by
  intro e
  have z := List.all_eq_true.mp h i hi
  rw [e] at z
  cases z
def lcLoop (am : AM) (tst : M Bool) (elt : M Opn) (vs : List Nat) : List D → List D → Sta → Res (List D)
  | [], acc, S => .ok acc S
  | d :: ds, acc, S => match am ⟨false, d⟩ S with
    | none => .stuck
    | some S1 => match tst S1 with
      | .ok true S2 => match elt S2 with
        | .ok o S3 => match curD S3 o with
          | some d' => if acc.length < sizeLine then lcLoop am tst elt vs ds (acc ++ [d']) (wipeS (frz S3 o) vs) else .stuck
          | none => .stuck
        | _ => .stuck
      | .ok false S2 => lcLoop am tst elt vs ds acc (wipeS S2 vs)
      | _ => .stuck
def mLC (mi : M (List D)) (am : AM) (tst : M Bool) (elt : M Opn) (vs : List Nat) : M Opn := fun S => match mi S with
  | .ok ds S1 => if noOwn S1 vs = true then match lcLoop am tst elt vs ds [] (wipeS S1 vs) with
      | .ok acc S2 => .ok (.v ⟨true, .lst acc⟩) (restS S1 S2 vs)
      | _ => .stuck
    else .stuck
  | .exc x S1 => .exc x S1
  | .stuck => .stuck
/-- no exception is wished for -/
abbrev W0 : WX := fun _ _ _ _ => False
def DTs (X : Cx) (g : Gh) (W : WX) (es : List Expr) (m : M Bool) : Prop := PTs X es (tDt g W m)
section
variable {X : Cx} {g : Gh} {W : WX} {a b c e : Expr} {ma mb mc m : M Opn} {pos : Pos}
theorem pts_imp {es : List Expr} {t t' : TT} (h : PTs X es t) (i : ∀ σ H Q, t' σ H Q → t σ H Q) : PTs X es t' := ⟨fun pins s σ H Q I q => h.run pins s σ H Q I (i σ H Q q)⟩
theorem dts_nil : DTs X g W [] (M.ret true) := by
  refine pts_imp pts_nil fun σ H Q q => ?_
  obtain ⟨ids, S, Z, r, q⟩ := tDt_wp.mp q
  exact q H ids (Aft.nil r)
theorem dts_one {mc : M Bool} (h : DT X g W c mc) : DTs X g W [c] mc := pts_one h
/-- a protected thing is changed -/
theorem Rel.updZ {ids : List Addr} {S : Sta} {σ : L2.St} {H : Hp} {Z : Addr → Prop} {p : Addr} {o : HO} (r : Rel g ids S σ H Z) (hz : Z p) : Rel g ids S σ (upd H p o) Z := by
  have k : Kept H (upd H p o) (OA S σ Z) := fun a u e n => by
    rw [upd_ne fun z => n (by rw [z]; exact .inl hz)]; exact e
  refine ⟨r.len, fun i c e => ?_, r.inj, r.apart, fun a z => upd_trk (r.trk a z), r.cnt, r.nd, fun a h => upd_trk (r.idt a h)⟩
  obtain ⟨v, e1, e2⟩ := r.rep i c e
  refine ⟨v, e1, e2.mono (fun hc a u ev q => ?_) k (fun a z => .inl z) .rfl⟩
  obtain ⟨co, d⟩ := c
  have hc' : co = true := hc
  subst hc' ev
  rw [upd_ne fun z => r.apart a ⟨i, d, e, e1⟩ (by rw [z]; exact hz)]
  exact q
theorem Rel.wipe {ids : List Addr} {S : Sta} {σ : L2.St} {H : Hp} {Z : Addr → Prop} (r : Rel g ids S σ H Z) (vs : List Nat) : Rel g ids (wipeS S vs) (wipeL σ vs) H Z := by
  have get : ∀ {i : Nat} {c : Cell}, (wipeL S.sl vs)[i]? = some (some c) → i ∉ vs ∧ S.sl[i]? = some (some c) := fun {i c} e => by
    have hi : i ∉ vs := fun z => wipeL_in z e
    rw [wipeL_out hi] at e
    exact ⟨hi, e⟩
  have getσ : ∀ {i : Nat} {v : V}, i ∉ vs → (wipeL σ vs)[i]? = some (some v) → σ[i]? = some (some v) := fun {i v} h e => by
    rw [wipeL_out h] at e; exact e
  have own : ∀ a, OwnA (wipeS S vs) (wipeL σ vs) a → OwnA S σ a := fun a ⟨i, d, h1, h2⟩ => ⟨i, d, (get h1).2, getσ (get h1).1 h2⟩
  have gr : ∀ a, OA (wipeS S vs) (wipeL σ vs) Z a → OA S σ Z a := fun a z => z.elim .inl fun z => .inr (own a z)
  refine ⟨by show (wipeL S.sl vs).length = _; rw [wipeL_len, wipeL_len]; exact r.len, fun i c e => ?_, fun i j di dj a h1 h2 h3 h4 => r.inj i j di dj a (get h1).2 (get h2).2 (getσ (get h1).1 h3) (getσ (get h2).1 h4), fun a z => r.apart a (own a z), r.trk, r.cnt, r.nd, r.idt⟩
  obtain ⟨hi, e⟩ := get e
  obtain ⟨v, e1, e2⟩ := r.rep i c e
  exact ⟨v, by rw [wipeL_out hi]; exact e1, e2.mono (fun _ _ _ _ q => q) .refl (fun a z => .inl (gr a z)) .rfl⟩

/-- the state between two turns -/
structure LcI (g : Gh) (ids : List Addr) (S : Sta) (σ : L2.St) (H : Hp) (Z : Addr → Prop) (p : Addr) (vs : List Nat) (ids2 : List Addr) (S2 : Sta) (H2 : Hp) (acc : List D) : Prop where
  rel : Rel g ids2 S2 (wipeL σ vs) H2 (fun b => Z b ∨ b = p)
  acc : ∃ xs, H2 p = some (.lst xs) ∧ RepL g ids2 H2 (OA S2 (wipeL σ vs) fun b => Z b ∨ b = p) acc xs
  keep : Kept H H2 (OwnA S σ)
  trk : ∀ a, H a ≠ none → H2 a ≠ none
  sub : ∀ (i : Nat) (d : D), S2.sl[i]? = some (some ⟨true, d⟩) → ∃ d0, S.sl[i]? = some (some ⟨true, d0⟩)
  bnd : ∀ (i : Nat) (c : Cell), i ∉ vs → S.sl[i]? = some (some c) → ∃ c', S2.sl[i]? = some (some c')
  non : ∀ (i : Nat) (c : Cell), i ∈ vs → S2.sl[i]? ≠ some (some c)
  ids : Ids ids ids2
  pin : S2.pin = S.pin
theorem t_lc {wi : TI} {gt : TG} {tt : TT} {te : TE} {mi : M (List D)} {am : AM} {tst : M Bool} {elt : M Opn} {vs L : List Nat} (hL : ∀ i ∈ L, i ∈ vs)
    (hwi : ∀ σ H R, tI g W mi σ H R → wi σ H R) (hgt : ∀ v σ H Q, tG g L am v σ H Q → gt v σ H Q) (htt : ∀ σ H Q, tDt g W0 tst σ H Q → tt σ H Q) (hte : ∀ σ H Q, tD g W0 elt σ H Q → te σ H Q)
    (σ : L2.St) (H : Hp) (Q : VK) (q : tD g W (mLC mi am tst elt vs) σ H Q) : tLc wi gt tt te vs σ H Q := by
  obtain ⟨ids, S, Z, r, q⟩ := tD_wp.mp q
  refine hwi σ H _ ⟨ids, S, Z, r, ?_⟩
  unfold mLC at q
  cases e : mi S with
  | stuck => rw [e] at q; exact q
  | exc x S1 => rw [e] at q; exact q
  | ok ds S1 =>
    rw [e] at q
    dsimp only at q
    intro J H1 ids1 A it p hp
    by_cases hno : noOwn S1 vs = true
    case neg => rw [if_neg hno] at q; exact q.elim
    rw [if_pos hno] at q
    rw [wipe_eq]
    have r1 := A.rel0
    have npo : ¬ OA S1 σ Z p := fun z => r1.oTrk p z hp
    -- the start
    have I0 : LcI g ids1 S1 σ H1 Z p vs ids1 (wipeS S1 vs) (upd H1 p (.lst [])) [] := by
      refine ⟨(r1.laidZ (.lst []) hp (fun a z => z)).wipe vs, ⟨[], upd_same, rfl, fun i d x e => by simp at e⟩, fun a o e _ => upd_kept hp (O := fun _ => False) a o e id, fun a h => upd_trk h, fun i d h => ?_, fun i c hi h => ⟨c, ?_⟩, fun i c hi h => ?_, .rfl, rfl⟩
      · have hi : i ∉ vs := fun z => wipeL_in z h
        exact ⟨d, (wipeL_out hi).symm.trans h⟩
      · exact (wipeL_out hi).trans h
      · exact wipeL_in hi h
    refine ⟨fun i m H2 => m = ds.length - i ∧ i ≤ ds.length ∧ ∃ ids2 S2 acc, LcI g ids1 S1 σ H1 Z p vs ids2 S2 H2 acc ∧ lcLoop am tst elt vs (ds.drop i) acc S2 = lcLoop am tst elt vs ds [] (wipeS S1 vs), ⟨ds.length, by simp, Nat.zero_le _, ids1, _, [], I0, by rw [List.drop_zero]⟩, ?_⟩
    rintro i m H2 ⟨rfl, hi, ids2, S2, acc, I2, el⟩
    have own2 : ∀ a, OwnA S2 (wipeL σ vs) a → OwnA S1 σ a := fun a ⟨j, d, h1, h2⟩ => by
      have hj : j ∉ vs := fun z => I2.non j _ z h1
      obtain ⟨d0, h3⟩ := I2.sub j d h1
      rw [wipeL_out hj] at h2
      exact ⟨j, d0, h3, h2⟩
    have kp : Kept H1 H2 (OA S1 σ Z) := fun a o e n => I2.keep a o e fun z => n (.inr z)
    have gr : Grown H1 (OA S1 σ Z) (OA S2 (wipeL σ vs) fun b => Z b ∨ b = p) := fun a z => by
      rcases z with (z | z) | z
      · exact .inl (.inl z)
      · rw [z]; exact .inr hp
      · exact .inl (.inr (own2 a z))
    obtain ⟨i1, i2, i3⟩ := it ids2 H2 _ I2.ids kp gr I2.rel.oTrk
    rw [← el] at q
    by_cases hlt : i < ds.length
    · refine .inr ⟨i1 i hlt, fun H' => ∃ ids' S' acc', LcI g ids1 S1 σ H1 Z p vs ids' S' H' acc' ∧ lcLoop am tst elt vs (ds.drop (i + 1)) acc' S' = lcLoop am tst elt vs ds [] (wipeS S1 vs), fun H' ⟨ids', S', acc', z1, z2⟩ => ⟨ds.length - (i + 1), by omega, rfl, hlt, ids', S', acc', z1, z2⟩, fun x H3 y => ?_⟩
      obtain ⟨d, hd, hr, hk⟩ := i3 i x H3 hlt y
      have ed : ds.drop i = d :: ds.drop (i + 1) := by
        obtain ⟨h1, h2⟩ := List.getElem?_eq_some_iff.mp hd
        rw [List.drop_eq_getElem_cons h1, h2]
      rw [ed] at q el
      dsimp only [lcLoop] at q el
      have r3 := I2.rel.heap hk
      have t3 : ∀ a, H2 a ≠ none → H3 a ≠ none := fun a h z => by
        cases e : H2 a with
        | none => exact h e
        | some o => rw [hk a o e] at z; cases z
      refine hgt x _ H3 _ ⟨ids2, S2, fun b => Z b ∨ b = p, ⟨false, d⟩, by rw [ZC.sh]; exact r3, by rw [ZC.sh]; exact hr, fun a z => Bool.noConfusion z, ?_⟩
      cases e3 : am ⟨false, d⟩ S2 with
      | none => rw [e3] at q; exact q.elim
      | some S3 =>
        rw [e3] at q el
        dsimp only at q el
        intro σ3 T3
        have wσ : wipeL σ3 vs = wipeL σ vs := by
          have z := wipeL_same (vs := vs) T3.lenσ fun j hj => (T3.out j fun z => hj (hL j z)).1
          rw [z]
          exact wipeL_same wipeL_len fun j hj => wipeL_out hj
        have wσ' : L2.wipe σ3 vs = wipeL σ vs := (wipe_eq σ3 vs).trans wσ
        refine ⟨wσ', ?_⟩
        have own3 : ∀ a, OwnA S3 σ3 a → OwnA S2 (wipeL σ vs) a := fun a ⟨j, d, h1, h2⟩ => by
          rcases T3.own j d a h1 h2 with z | ⟨⟨d0, z1⟩, z2⟩
          · exact Bool.noConfusion z.1
          · exact ⟨j, d0, z1, z2⟩
        refine htt σ3 H3 _ (tDt_wp.mpr ⟨ids2, S3, _, T3.rel, ?_⟩)
        cases e4 : tst S3 with
        | stuck => rw [e4] at q; exact q.elim
        | exc x S4 => rw [e4] at q; exact q.elim
        | ok k S4 =>
          rw [e4] at q el
          intro H4 ids4 A4
          have r4 := A4.rel0
          have accK : ∀ {ids' S' H'}, (∀ a o, H3 a = some o → ¬ OwnA S3 σ3 a → H' a = some o) → (∀ a, OwnA S' σ3 a → OwnA S3 σ3 a) → Ids ids2 ids' → ∃ xs, H' p = some (.lst xs) ∧ RepL g ids' H' (OA S' σ3 fun b => Z b ∨ b = p) acc xs := fun {ids' S' H'} k1 k2 k3 => by
            obtain ⟨xs, x1, x2⟩ := I2.acc
            have np : ¬ OwnA S3 σ3 p := fun z => T3.rel.apart p z (.inr rfl)
            refine ⟨xs, k1 p _ (hk p _ x1) np, x2.mono (fun a o e n => k1 a o (hk a o e) fun z => n (.inr (own3 a z))) (fun a z => ?_) k3⟩
            rcases z with z | z
            · exact .inl (.inl z)
            · exact .inl (.inr (own3 a (k2 a z)))
          cases k with
          | false =>
            rw [if_neg Bool.false_ne_true]
            dsimp only at el
            refine ⟨ids4, wipeS S4 vs, acc, ⟨by rw [← wσ]; exact r4.wipe vs, ?_, fun a o e n => A4.keep a o (hk a o (I2.keep a o e n)) fun z => n (own2 a (own3 a z)), fun a h => A4.trk a (t3 a (I2.trk a h)), fun j d h => ?_, fun j c hj h => ?_, fun j c hj h => wipeL_in hj h, I2.ids.trans A4.ids, A4.pin.trans (T3.pin.trans I2.pin)⟩, el⟩
            · obtain ⟨xs, x1, x2⟩ := accK (S' := S4) A4.keep (fun a z => OwnA.less A4.sub z) A4.ids
              refine ⟨xs, x1, x2.mono .refl (fun a z => ?_) .rfl⟩
              rcases z with z | ⟨j, d, h1, h2⟩
              · exact .inl (.inl z)
              · have hj : j ∉ vs := fun z => wipeL_in z h1
                refine .inl (.inr ⟨j, d, (wipeL_out hj).symm.trans h1, ?_⟩)
                rw [← wσ, wipeL_out hj] at h2
                exact h2
            · have hj : j ∉ vs := fun z => wipeL_in z h
              have h' := (wipeL_out hj).symm.trans h
              obtain ⟨d1, h1⟩ := A4.sub j d h'
              rw [(T3.out j fun z => hj (hL j z)).2] at h1
              exact I2.sub j d1 h1
            · obtain ⟨c1, h1⟩ := I2.bnd j c hj h
              rw [← (T3.out j fun z => hj (hL j z)).2] at h1
              obtain ⟨c2, h2⟩ := A4.bnd j c1 h1
              exact ⟨c2, (wipeL_out hj).trans h2⟩
          | true =>
            rw [if_pos rfl]
            dsimp only at q el
            refine hte σ3 H4 _ (tD_wp.mpr ⟨ids4, S4, _, r4, ?_⟩)
            cases e5 : elt S4 with
            | stuck => rw [e5] at q; exact q.elim
            | exc x S5 => rw [e5] at q; exact q.elim
            | ok o S5 =>
              rw [e5] at q el
              dsimp only at q el
              intro v H5 ids5 A5
              cases e6 : curD S5 o with
              | none => rw [e6] at q; exact q.elim
              | some d' =>
                rw [e6] at q el
                dsimp only at q el
                by_cases hz : acc.length < sizeLine
                case neg => rw [if_neg hz] at q; exact q.elim
                rw [if_pos hz] at q el
                have hm : [o].mapM (curD S5) = some [d'] := by simp [List.mapM_cons, e6]
                obtain ⟨hv, A6⟩ := A5.taken r4 hm
                have A6' : Aft g ids4 S4 σ3 H4 _ [o] [v] ids5 (Ov.frz S5 o) H5 := A6
                have rv : Rep g ids5 H5 (OA (Ov.frz S5 o) σ3 fun b => Z b ∨ b = p) d' v := hv.2 0 d' v rfl rfl
                have A7 := A4.append (ps := [o]) (ws := [v]) (by rw [ZL.nil]; exact A6')
                rw [show ([] : List Opn) ++ [o] = [o] from rfl, show ([] : List V) ++ [v] = [v] from rfl] at A7
                obtain ⟨xs, x1, x2⟩ := accK (S' := Ov.frz S5 o) A7.keep (fun a z => OwnA.less A7.sub z) A7.ids
                refine ⟨xs, x1, by rw [x2.1]; exact hz, ids5, wipeS (Ov.frz S5 o) vs, acc ++ [d'], ?_, el⟩
                have r7 := A7.rel0
                have kU : Kept H5 (upd H5 p (.lst (xs ++ [v]))) (OA (Ov.frz S5 o) σ3 fun b => Z b ∨ b = p) := fun a u e n => by
                  rw [upd_ne fun z => n (by rw [z]; exact .inl (.inr rfl))]; exact e
                have ownW : Grown H5 (OA (Ov.frz S5 o) σ3 fun b => Z b ∨ b = p) (OA (wipeS (Ov.frz S5 o) vs) (wipeL σ vs) fun b => Z b ∨ b = p) := fun a z => by
                  rcases z with z | ⟨j, d, h1, h2⟩
                  · exact .inl (.inl z)
                  · have hj : j ∉ vs := fun z => wipeL_in z h1
                    refine .inl (.inr ⟨j, d, (wipeL_out hj).symm.trans h1, ?_⟩)
                    rw [← wσ, wipeL_out hj] at h2
                    exact h2
                refine ⟨?_, ⟨xs ++ [v], upd_same, ?_⟩, fun a u e n => ?_, fun a h => upd_trk (A7.trk a (t3 a (I2.trk a h))), fun j d h => ?_, fun j c hj h => ?_, fun j c hj h => wipeL_in hj h, I2.ids.trans A7.ids, A7.pin.trans (T3.pin.trans I2.pin)⟩
                · have z := (r7.wipe vs).updZ (p := p) (o := .lst (xs ++ [v])) (.inr rfl)
                  rw [wσ] at z
                  exact z
                · have x2' := x2.mono kU ownW .rfl
                  have rv' := rv.mono kU ownW .rfl
                  refine ⟨by rw [List.length_append, List.length_append, x2'.1, List.length_singleton, List.length_singleton], fun j dj xj h1 h2 => ?_⟩
                  by_cases hj : j < acc.length
                  · rw [List.getElem?_append_left hj] at h1
                    rw [List.getElem?_append_left (by rw [x2'.1]; exact hj)] at h2
                    exact x2'.2 j dj xj h1 h2
                  · rw [List.getElem?_append_right (by omega)] at h1
                    rw [List.getElem?_append_right (by rw [x2'.1]; omega), x2'.1] at h2
                    cases hh : j - acc.length with
                    | zero =>
                      rw [hh] at h1 h2
                      cases h1
                      cases h2
                      exact rv'
                    | succ k => rw [hh] at h1; simp at h1
                · have nap : a ≠ p := fun z => by rw [z, hp] at e; cases e
                  rw [upd_ne nap]
                  exact A7.keep a u (hk a u (I2.keep a u e n)) fun z => n (own2 a (own3 a z))
                · have hj : j ∉ vs := fun z => wipeL_in z h
                  have h' := (wipeL_out hj).symm.trans h
                  obtain ⟨d1, h1⟩ := A7.sub j d h'
                  rw [(T3.out j fun z => hj (hL j z)).2] at h1
                  exact I2.sub j d1 h1
                · obtain ⟨c1, h1⟩ := I2.bnd j c hj h
                  rw [← (T3.out j fun z => hj (hL j z)).2] at h1
                  obtain ⟨c2, h2⟩ := A7.bnd j c1 h1
                  exact ⟨c2, (wipeL_out hj).trans h2⟩
    · -- the end
      refine .inl ⟨i2 i (by omega), ?_⟩
      have ed : ds.drop i = [] := List.drop_eq_nil_of_le (by omega)
      rw [ed] at q
      dsimp only [lcLoop] at q
      refine q (.ref p) H2 ids2 ?_
      obtain ⟨xs, x1, x2⟩ := I2.acc
      have hlen : S2.sl.length = S1.sl.length := by
        rw [I2.rel.len, wipeL_len, ← r1.len]
      have zl : ZL Z [.v ⟨true, .lst acc⟩] [.ref p] = fun b => Z b ∨ b = p := by
        funext b
        refine propext ⟨fun z => z.elim .inl ?_, fun z => z.elim .inl fun z => .inr ⟨0, .lst acc, rfl, by rw [z]; rfl⟩⟩
        rintro ⟨k, d', h1, h2⟩
        cases k with
        | zero => cases h2; exact .inr rfl
        | succ k => simp at h1
      have get : ∀ {j : Nat} {c : Cell}, (restL S1.sl S2.sl vs)[j]? = some (some c) → (j ∈ vs ∧ S1.sl[j]? = some (some c)) ∨ (j ∉ vs ∧ S2.sl[j]? = some (some c)) := fun {j c} h => by
        by_cases hj : j ∈ vs
        · exact .inl ⟨hj, restL_in hlen hj h⟩
        · rw [restL_out hj] at h
          exact .inr ⟨hj, h⟩
      have getO : ∀ {j : Nat} {d : D}, (restL S1.sl S2.sl vs)[j]? = some (some ⟨true, d⟩) → j ∉ vs ∧ S2.sl[j]? = some (some ⟨true, d⟩) := fun {j d} h => by
        rcases get h with ⟨hj, h⟩ | z
        · exact (noOwn_at hno hj h).elim
        · exact z
      have own : ∀ a, OwnA (restS S1 S2 vs) σ a → OwnA S2 (wipeL σ vs) a := fun a ⟨j, d, h1, h2⟩ => ⟨j, d, (getO h1).2, by rw [wipeL_out (getO h1).1]; exact h2⟩
      have grS : Grown H2 (OA S2 (wipeL σ vs) fun b => Z b ∨ b = p) (OA (restS S1 S2 vs) σ fun b => Z b ∨ b = p) := fun a z => z.elim (fun z => .inl (.inl z)) fun z => .inl (.inr (own a z))
      have gr1 : Grown H1 (OA S1 σ Z) (OA (restS S1 S2 vs) σ fun b => Z b ∨ b = p) := fun a z => by
        rcases z with (z | z) | z
        · exact .inl (.inl z)
        · rw [z]; exact .inr hp
        · exact .inl (.inr (own2 a (own a z)))
      have rr : Rel g ids2 (restS S1 S2 vs) σ H2 (fun b => Z b ∨ b = p) := by
        refine ⟨by show (restL S1.sl S2.sl vs).length = _; rw [restL_len, hlen]; exact r1.len, fun j c h => ?_, fun j k dj dk a h1 h2 h3 h4 => ?_, fun a z => I2.rel.apart a (own a z), I2.rel.trk, I2.rel.cnt, I2.rel.nd, I2.rel.idt⟩
        · rcases get h with ⟨hj, h⟩ | ⟨hj, h⟩
          · obtain ⟨co, d⟩ := c
            cases co with
            | true => exact (noOwn_at hno hj h).elim
            | false =>
              obtain ⟨v, v1, v2⟩ := r1.rep j _ h
              exact ⟨v, v1, v2.mono (fun z => Bool.noConfusion z) kp gr1 I2.ids⟩
          · obtain ⟨v, v1, v2⟩ := I2.rel.rep j c h
            rw [wipeL_out hj] at v1
            exact ⟨v, v1, v2.mono (fun _ _ _ _ q => q) .refl grS .rfl⟩
        · obtain ⟨hj, h1⟩ := getO h1
          obtain ⟨hk, h2⟩ := getO h2
          exact I2.rel.inj j k dj dk a h1 h2 (by rw [wipeL_out hj]; exact h3) (by rw [wipeL_out hk]; exact h4)
      have A2 : Aft g ids1 S1 σ H1 Z [.v ⟨true, .lst acc⟩] [.ref p] ids2 (restS S1 S2 vs) H2 := by
        refine ⟨by rw [zl]; exact rr, rfl, fun j o w h1 h2 => ?_, fun j d a h1 h2 => ?_, fun j k d e a h1 h2 _ _ => ?_, I2.keep, I2.trk, fun j d h => ?_, fun j c h => ?_, I2.ids, I2.pin⟩
        · cases j with
          | zero =>
            cases h1
            cases h2
            rw [zl]
            exact ⟨p, rfl, xs, x1, x2.mono .refl grS .rfl⟩
          | succ j => simp at h1
        · cases j with
          | zero => cases h2; exact hp
          | succ j => simp at h1
        · cases j with
          | zero =>
            cases k with
            | zero => rfl
            | succ k => simp at h2
          | succ j => simp at h1
        · exact I2.sub j d (getO h).2
        · by_cases hj : j ∈ vs
          · have key : ∀ {ws : List Nat}, j ∈ ws → (restL S1.sl S2.sl ws)[j]? = some (some c) := by
              intro ws
              induction ws with
              | nil => intro z; cases z
              | cons w ws ih =>
                intro z
                unfold restL
                have hb : j < S1.sl.length := (List.getElem?_eq_some_iff.mp h).1
                by_cases hw : w = j
                · subst hw
                  rw [List.getElem?_set_self (by rw [restL_len, hlen]; exact hb), h]
                  rfl
                · rw [List.getElem?_set_ne hw]
                  rcases List.mem_cons.mp z with z | z
                  · exact (hw z.symm).elim
                  · exact ih z
            exact ⟨c, key hj⟩
          · obtain ⟨c', h'⟩ := I2.bnd j c hj h
            exact ⟨c', (restL_out hj).trans h'⟩
      have z := A.append (ps := [.v ⟨true, .lst acc⟩]) (ws := [.ref p]) (by rw [ZL.nil]; exact A2)
      exact z
end
end Ov


set_option Elab.async false
set_option linter.all false
set_option maxRecDepth 100000
set_option maxHeartbeats 4000000
namespace Ov
open PySem PySem.Spec PyProof.Rows L2

/-! ### what a def does -/
inductive FR where
  | ok (c : Cell) (fin : List Cell) (cnt : Nat)
  | exc (x : Exn) (fin : List Cell) (cnt : Nat)
  | stuck
abbrev FM := List Cell → Nat → FR
def entry (cs : List Cell) (n : Nat) (cnt : Nat) : Sta := ⟨cs.map some ++ List.replicate n none, cnt, cs.map (·.own)⟩
/-- behind a call: v of c; the arguments' things at last -/
structure FA (g : Gh) (ids : List Addr) (cs : List Cell) (vs : List V) (H : Hp) (Z : Addr → Prop) (c : Cell) (v : V) (ids' : List Addr) (fin : List Cell) (cnt' : Nat) (H' : Hp) : Prop where
  rel : Rel g ids' (entry fin 0 cnt') (vs.map some) H' (ZC Z c v)
  res : CellRep g ids' H' (OA (entry fin 0 cnt') (vs.map some) (ZC Z c v)) c v
  new : ∀ a, c.own = true → v = .ref a → H a = none
  len : fin.length = cs.length
  keep : Kept H H' (OwnA (entry cs 0 0) (vs.map some))
  trk : ∀ a, H a ≠ none → H' a ≠ none
  sub : ∀ (i : Nat) (d : D), fin[i]? = some ⟨true, d⟩ → ∃ d0, cs[i]? = some ⟨true, d0⟩
  ids : Ids ids ids'
structure FXA (g : Gh) (ids : List Addr) (cs : List Cell) (vs : List V) (H : Hp) (Z : Addr → Prop) (x : Exn) (cls : Value) (d : Option Addr) (ids' : List Addr) (fin : List Cell) (cnt' : Nat) (H' : Hp) : Prop where
  rel : Rel g ids' (entry fin 0 cnt') (vs.map some) H' Z
  cls : g.mg x.C = some cls
  pay : (x.fs = [] ∧ d = none) ∨ ∃ p ws, d = some p ∧ H' p = some (.xd ws) ∧ ¬ OA (entry fin 0 cnt') (vs.map some) Z p ∧ RepF g ids' H' (OA (entry fin 0 cnt') (vs.map some) Z) x.fs ws
  len : fin.length = cs.length
  keep : Kept H H' (OwnA (entry cs 0 0) (vs.map some))
  trk : ∀ a, H a ≠ none → H' a ≠ none
  sub : ∀ (i : Nat) (d : D), fin[i]? = some ⟨true, d⟩ → ∃ d0, cs[i]? = some ⟨true, d0⟩
  ids : Ids ids ids'
def WpF (g : Gh) (ids : List Addr) (cs : List Cell) (vs : List V) (H : Hp) (Z : Addr → Prop) (Q : VK) (E : XK) : FR → Prop
  | .ok c fin cnt' => ∀ v H' ids', FA g ids cs vs H Z c v ids' fin cnt' H' → Q v H'
  | .exc x fin cnt' => ∀ cls d H' ids', FXA g ids cs vs H Z x cls d ids' fin cnt' H' → E cls d H'
  | .stuck => False
/-- the promise of a def that does F -/
def spF (g : Gh) (np : Nat) (F : FM) : Sp := fun vs H Q E => vs.length = np ∧ ∃ ids cs cnt Z, cs.length = np ∧ Rel g ids (entry cs 0 cnt) (vs.map some) H Z ∧ WpF g ids cs vs H Z Q E (F cs cnt)
/-- the parameters' cells at last -/
def fins (cs : List Cell) (S : Sta) : List Cell := cs.mapIdx fun i c => if c.own = true then (S.sl[i]?.join).getD c else c
/-- a body with n slots behind its parameters -/
def bodyF (np n : Nat) (m : SM) : FM := fun cs cnt => if cs.length = np then match m (entry cs n cnt) with
    | .nx S => .ok ⟨false, .non⟩ (fins cs S) S.cnt
    | .rt c S => .ok c (fins cs S) S.cnt
    | .exc x S => .exc x (fins cs S) S.cnt
    | _ => .stuck
  else .stuck

section
variable {g : Gh} {ids ids1 : List Addr} {S S1 : Sta} {σ σ1 : L2.St} {H H1 : Hp} {Z : Addr → Prop} {cs : List Cell} {vs : List V} {n : Nat}
theorem entry_get {cnt i : Nat} {c : Cell} : (entry cs n cnt).sl[i]? = some (some c) ↔ cs[i]? = some c := by
  unfold entry
  dsimp only
  by_cases hi : i < cs.length
  · rw [List.getElem?_append_left (by simpa using hi), List.getElem?_map, List.getElem?_eq_getElem hi]
    simp
  · rw [List.getElem?_append_right (by simpa using hi), List.getElem?_replicate, List.getElem?_eq_none (by omega)]
    constructor
    · intro h
      split at h <;> cases h
    · intro h
      cases h
theorem start_get {N : List Str} {i : Nat} {v : V} : (L2.start N vs)[i]? = some (some v) ↔ vs[i]? = some v := by
  unfold L2.start
  by_cases hi : i < vs.length
  · rw [List.getElem?_append_left (by simpa using hi), List.getElem?_map, List.getElem?_eq_getElem hi]
    simp
  · rw [List.getElem?_append_right (by simpa using hi), List.getElem?_replicate, List.getElem?_eq_none (l := vs) (by omega)]
    constructor
    · intro h
      split at h <;> cases h
    · intro h
      cases h
theorem map_get {i : Nat} {v : V} : (vs.map some)[i]? = some (some v) ↔ vs[i]? = some v := by
  rw [List.getElem?_map]
  cases vs[i]? with
  | none => exact ⟨(fun h => nomatch h), (fun h => nomatch h)⟩
  | some w => exact ⟨fun h => Option.some.inj h, fun h => congrArg some h⟩
theorem entry_own {cnt cnt' : Nat} {a : Addr} {N : List Str} : OwnA (entry cs n cnt) (L2.start N vs) a ↔ OwnA (entry cs 0 cnt') (vs.map some) a := by
  constructor
  · rintro ⟨i, d, h1, h2⟩
    exact ⟨i, d, entry_get.mpr (entry_get.mp h1), map_get.mpr (start_get.mp h2)⟩
  · rintro ⟨i, d, h1, h2⟩
    exact ⟨i, d, entry_get.mpr (entry_get.mp h1), start_get.mpr (map_get.mp h2)⟩
theorem entry_own0 {cnt cnt' : Nat} {a : Addr} : OwnA (entry cs n cnt) (vs.map some) a ↔ OwnA (entry cs 0 cnt') (vs.map some) a := by
  constructor
  · rintro ⟨i, d, h1, h2⟩
    exact ⟨i, d, entry_get.mpr (entry_get.mp h1), h2⟩
  · rintro ⟨i, d, h1, h2⟩
    exact ⟨i, d, entry_get.mpr (entry_get.mp h1), h2⟩
/-- into the body -/
theorem Rel.enter {cnt : Nat} {N : List Str} (r : Rel g ids (entry cs 0 cnt) (vs.map some) H Z) (hN : N.length = vs.length + n) : Rel g ids (entry cs n cnt) (L2.start N vs) H Z := by
  have hl : cs.length = vs.length := by
    have := r.len
    simpa [entry] using this
  have ow : ∀ a, OwnA (entry cs n cnt) (L2.start N vs) a → OwnA (entry cs 0 cnt) (vs.map some) a := fun a z => entry_own.mp z
  refine ⟨?_, fun i c e => ?_, fun i j di dj a h1 h2 h3 h4 => r.inj i j di dj a (entry_get.mpr (entry_get.mp h1)) (entry_get.mpr (entry_get.mp h2)) (map_get.mpr (start_get.mp h3)) (map_get.mpr (start_get.mp h4)), fun a z => r.apart a (ow a z), r.trk, r.cnt, r.nd, r.idt⟩
  · unfold entry L2.start
    rw [List.length_append, List.length_append, List.length_map, List.length_map, List.length_replicate, List.length_replicate]
    omega
  · obtain ⟨v, e1, e2⟩ := r.rep i c (entry_get.mpr (entry_get.mp e))
    exact ⟨v, start_get.mpr (map_get.mp e1), e2.mono (fun _ _ _ _ q => q) .refl (fun a z => .inl (z.elim .inl fun z => .inr (ow a z))) .rfl⟩
theorem fins_get {i : Nat} {c : Cell} : (fins cs S)[i]? = some c ↔ ∃ c0, cs[i]? = some c0 ∧ c = if c0.own = true then (S.sl[i]?.join).getD c0 else c0 := by
  unfold fins
  rw [List.getElem?_mapIdx]
  cases cs[i]? with
  | none => simp
  | some c0 => exact ⟨fun h => ⟨c0, rfl, (Option.some.inj h).symm⟩, fun ⟨c1, h1, h2⟩ => by cases h1; rw [h2]; rfl⟩
/-- out of the body: the parameters' things at last -/
theorem fins_rel {cnt : Nat} {N : List Str} {Z' : Addr → Prop} (r0 : Rel g ids (entry cs 0 cnt) (vs.map some) H Z) (T : Step ids (entry cs n cnt) (L2.start N vs) H ids1 S1 σ1 H1) (r1 : Rel g ids1 S1 σ1 H1 Z')
    (hz : ∀ a, Z' a → Z a ∨ H a = none) : Rel g ids1 (entry (fins cs S1) 0 S1.cnt) (vs.map some) H1 Z' ∧ (∀ a, OA (entry (fins cs S1) 0 S1.cnt) (vs.map some) Z' a → OA S1 σ1 Z' a) := by
  have hl : cs.length = vs.length := by
    have := r0.len
    simpa [entry] using this
  have pin : ∀ {i : Nat} {d : D}, cs[i]? = some ⟨true, d⟩ → (entry cs n cnt).pin[i]? = some true := fun {i d} e => by
    show (cs.map (·.own))[i]? = _
    rw [List.getElem?_map, e]
    rfl
  -- an owned cell at last stands at its own slot
  have own : ∀ {i : Nat} {d : D} {v : V}, (entry (fins cs S1) 0 S1.cnt).sl[i]? = some (some ⟨true, d⟩) → vs[i]? = some v → S1.sl[i]? = some (some ⟨true, d⟩) ∧ σ1[i]? = some (some v) ∧ ∃ d0, cs[i]? = some ⟨true, d0⟩ := fun {i d v} e ev => by
    obtain ⟨c0, h1, h2⟩ := fins_get.mp (entry_get.mp e)
    obtain ⟨b, d0⟩ := c0
    cases b with
    | false => cases h2
    | true =>
      have hp := pin h1
      have hσ := (T.pinσ i hp).trans (start_get.mpr ev)
      obtain ⟨c', hb⟩ := T.pinb i _ hp (entry_get.mpr h1)
      rw [if_pos rfl, hb] at h2
      have h3 : (⟨true, d⟩ : Cell) = c' := h2
      subst h3
      exact ⟨hb, hσ, d0, h1⟩
  have ow : ∀ a, OwnA (entry (fins cs S1) 0 S1.cnt) (vs.map some) a → OwnA S1 σ1 a := fun a ⟨i, d, h1, h2⟩ => by
    obtain ⟨z1, z2, _⟩ := own h1 (map_get.mp h2)
    exact ⟨i, d, z1, z2⟩
  have gr : ∀ a, OA (entry (fins cs S1) 0 S1.cnt) (vs.map some) Z' a → OA S1 σ1 Z' a := fun a z => z.elim .inl fun z => .inr (ow a z)
  refine ⟨⟨?_, fun i c e => ?_, fun i j di dj a h1 h2 h3 h4 => ?_, fun a z => r1.apart a (ow a z), r1.trk, r1.cnt, r1.nd, r1.idt⟩, gr⟩
  · unfold entry fins
    simp [hl]
  · obtain ⟨c0, h1, h2⟩ := fins_get.mp (entry_get.mp e)
    obtain ⟨v, e1, e2⟩ := r0.rep i c0 (entry_get.mpr h1)
    refine ⟨v, e1, ?_⟩
    obtain ⟨b, d0⟩ := c0
    cases b with
    | false =>
      rw [if_neg Bool.false_ne_true] at h2
      subst h2
      refine CellRep.mono e2 (fun z => Bool.noConfusion z) (fun a o e' nz => T.keep a o e' fun z => nz (.inr (entry_own.mp z))) (fun a z => ?_) T.ids
      rcases gr a z with z | z
      · rcases hz a z with z | z
        · exact .inl (.inl z)
        · exact .inr z
      · rcases T.ownA z with z | z
        · exact .inr z
        · exact .inl (.inr (entry_own.mp z))
    | true =>
      have hp := pin h1
      have hσ := (T.pinσ i hp).trans (start_get.mpr (map_get.mp e1))
      obtain ⟨c', hb⟩ := T.pinb i _ hp (entry_get.mpr h1)
      rw [if_pos rfl, hb] at h2
      have h3 : c = c' := h2
      subst h3
      obtain ⟨w, w1, w2⟩ := r1.rep i c hb
      rw [hσ] at w1
      have e3 : v = w := Option.some.inj (Option.some.inj w1)
      subst e3
      exact w2.mono (fun _ _ _ _ q => q) .refl (fun a z => .inl (gr a z)) .rfl
  · obtain ⟨z1, z2, _⟩ := own h1 (map_get.mp h3)
    obtain ⟨y1, y2, _⟩ := own h2 (map_get.mp h4)
    exact r1.inj i j di dj a z1 y1 z2 y2
theorem fins_sub {cnt : Nat} {N : List Str} {i : Nat} {d : D} (h : (fins cs S1)[i]? = some ⟨true, d⟩) : ∃ d0, cs[i]? = some ⟨true, d0⟩ := by
  obtain ⟨c0, h1, h2⟩ := fins_get.mp h
  obtain ⟨b, d0⟩ := c0
  cases b with
  | false => cases h2
  | true => exact ⟨d0, h1⟩
/-- a body's end is a call's end -/
theorem wpF_of {m : SM} {np cnt : Nat} {N : List Str} {Q : VK} {E : XK} (hN : N.length = np + n) (hv : vs.length = np) (hc : cs.length = np) (r : Rel g ids (entry cs 0 cnt) (vs.map some) H Z) (h : WpF g ids cs vs H Z Q E (bodyF np n m cs cnt)) :
    tS g (fun cls d _ H => E cls d H) m { nx := fun _ H' => Q .non H', rt := Q } (L2.start N vs) H := by
  have re := r.enter (n := n) (N := N) (by rw [hv]; exact hN)
  refine ⟨ids, entry cs n cnt, Z, re, ?_⟩
  unfold bodyF at h
  rw [if_pos hc] at h
  have keep : ∀ {ids' S' σ' H'}, Step ids (entry cs n cnt) (L2.start N vs) H ids' S' σ' H' → Kept H H' (OwnA (entry cs 0 0) (vs.map some)) := fun T a o e nz => T.keep a o e fun z => nz (entry_own.mp z)
  have lenF : ∀ S', (fins cs S').length = cs.length := fun S' => by unfold fins; simp
  have ret : ∀ {c S' v σ' H' ids'}, Ret g ids (entry cs n cnt) (L2.start N vs) H Z c v ids' S' σ' H' → FA g ids cs vs H Z c v ids' (fins cs S') S'.cnt H' := fun {c S' v σ' H' ids'} R => by
    have hn : ∀ a, c.own = true → v = .ref a → H a = none := fun a h1 h2 => by
      rcases R.new a h1 h2 with z | ⟨i, d, z1, z2, z3⟩
      · exact z
      · refine (z3 ?_).elim
        show (cs.map (·.own))[i]? = _
        rw [List.getElem?_map, entry_get.mp z1]
        rfl
    obtain ⟨r1, gr⟩ := fins_rel r R.st R.rel fun a z => z.elim .inl fun ⟨z1, z2⟩ => .inr (hn a z1 z2)
    exact ⟨r1, R.res.mono (fun _ _ _ _ q => q) .refl (fun a z => .inl (gr a z)) .rfl, hn, lenF S', keep R.st, R.st.trk, fun i d h => fins_sub (cnt := 0) (N := []) h, R.st.ids⟩
  cases e : m (entry cs n cnt) with
  | stuck => rw [e] at h; exact h
  | bk S' => rw [e] at h; exact h.elim
  | ct S' => rw [e] at h; exact h.elim
  | nx S' =>
    rw [e] at h
    intro σ' H' ids' T r1
    refine h .non H' ids' (ret (c := ⟨false, .non⟩) ⟨by rw [ZC.sh]; exact r1, .non, fun a z => Bool.noConfusion z, T⟩)
  | rt c S' =>
    rw [e] at h
    exact fun v σ' H' ids' R => h v H' ids' (ret R)
  | exc x S' =>
    rw [e] at h
    intro cls d σ' H' ids' R
    obtain ⟨r1, gr⟩ := fins_rel r R.st R.rel fun a z => .inl z
    refine h cls d H' ids' ⟨r1, R.cls, ?_, lenF S', keep R.st, R.st.trk, fun i d h => fins_sub (cnt := 0) (N := []) h, R.st.ids⟩
    rcases R.pay with z | ⟨p, ws, h1, h2, h3, h4⟩
    · exact .inl z
    · exact .inr ⟨p, ws, h1, h2, fun z => h3 (gr p z), h4.mono .refl (fun a z => .inl (gr a z)) .rfl⟩
end

/-! ### the promise, with the guards told -/
structure FnG (qr : Bool) (P : Program) (w : World) (K : PySem.W.Frag) (mg : Str → Option Value) (base : Heap) (k : Nat) (f : Addr) (fd : FuncData) (ps : List Str) (sp : Sp) : Prop where
  len : ∀ vs H Q E, sp vs H Q E → vs.length = ps.length
  run : ∀ (A : Around) (outer : List Env) (s : Shared) (H : Hp) (args : Args) (us : List Value) (vs : List V) (Q : VK) (E : XK), Room k A → (qr = true → A.guards = some []) → Env0 P w K mg base A outer s H → BindsTo s fd args (ps.zip us) → Vals vs us → sp vs H Q E →
    codeAny (model P w) A (.call (.ref f) args) (CR (L2.CX P w) outer P w H s Q E) s
/-- what the rules ask of the context -/
structure Wf (qr : Bool) (P : Program) (w : World) (K : PySem.W.Frag) (mg : Str → Option Value) (base : Heap) (k : Nat) (N : List Str) (sc : Scope) (X : Cx) (g : Gh) (W : WX) : Prop where
  gK : g.K = X.K
  gm : g.mg = X.mg
  P : X.prog = P
  w : X.w = w
  K : X.K = K
  m : X.mg = mg
  b : X.base = base
  N : X.N = N
  kd : X.env.scope.kind = .function
  loc : ∀ x, sc.names.lookup x = some .local → X.env.scope.names.lookup x = some .local
  cel : ∀ x, sc.names.lookup x = some .cell → X.env.scope.names.lookup x = some .cell
  fre : ∀ x, sc.names.lookup x = some .free → X.env.scope.names.lookup x = some .cell ∨ X.env.scope.names.lookup x = some .free
  glb : ∀ x, sc.names.lookup x = some .globalImplicit → X.env.scope.names.lookup x = some .globalImplicit
  fnc : ∀ x, sc.names.lookup x = some .cell → X.fn x = true
  nd : List.Nodup X.N
  tk : Takes X W
  rm : Room k X.A
  gd : qr = true → X.A.guards = some []
  cm : X.calm = true
  po : PassesOwn (model X.prog X.w) X.A X.env X.xe
section
variable {P : Program} {w : World} {K : PySem.W.Frag} {mg : Str → Option Value} {base : Heap} {k : Nat}
theorem fnG_of {qr : Bool} {x qual : Str} {st : Stmt} {f : Addr} {fd : FuncData} {N ps : List Str} {g : Gh} {np n : Nat} {m : SM} (F : Fun K x qual st f fd) (S : FnScope N ps (defScope st)) (hg : g = ⟨K, mg⟩) (hp : ps.length = np) (hN : N.length = np + n)
    (hbody : ∀ (X : Cx) (W : WX), Wf qr P w K mg base k N (defScope st) X g W → X.stack = X.env :: X.outer → X.env.frame = some X.env.locals → (∀ y, X.fn y = true) → DSs X g W (defBody st) m)  : FnG qr P w K mg base (k + 1) f fd ps (spF g np (bodyF np n m)) := by
  obtain ⟨oc, od, kV, doc, pm, an, cdv, ct, osl, rfl, lk, hcd⟩ := F.ex
  have hlen : ∀ vs H Q E, spF g np (bodyF np n m) vs H Q E → vs.length = ps.length := fun vs H Q E h => h.1.trans hp.symm
  refine ⟨hlen, fun A outer s H args us vs Q E hr hgd e0 hb r hsp => ?_⟩
  have lk0 := hlen _ _ _ _ hsp
  have inK : K.In s.heap := e0.mod.kin.keeps fun b o e => (e0.bs b o e).1
  have noLim : s.heap.NoLimit := e0.mod.nolimit.keeps fun b o e => (e0.bs b o e).1
  have kinds : ∀ y ∈ ps.zip us, (defScope st).names.lookup y.1 = some .local ∨ ((defScope st).names.lookup y.1 = some .cell ∧ ((cellsFrom (s.heap.objs.size + 1) (defScope st).names []).lookup y.1).isSome = true) := by
    rintro ⟨nm, vv⟩ hy
    rcases S.par nm (List.of_mem_zip hy).1 with q | q
    · exact .inl q
    · exact .inr ⟨q, PySem.W.cellsFrom_some _ _ _ (.inl q)⟩
  refine codeAny_call_function hr.depth (inK _ _ lk) rfl S.co S.gen rfl (PySem.W.codeRec_of inK hcd) (hb _ _ _ _ ?_)
  refine wpAny_newFunctionEnv_cells S.kind kinds fun env he s1 xx => ?_
  subst he
  refine ⟨noLim.keeps xx.toInCall.keep, codeAny_func ?_⟩
  obtain ⟨hv, ids, cs, cnt, Z, hc, rl, wp⟩ := hsp
  have I : Inv (cxOf (L2.CX P w) P w K mg base N qual (defScope st) f cdv A outer s H E) [] (L2.start N vs) H s1 := inv_start S hr.hd e0 lk0 r xx
  have wf : Wf qr P w K mg base k N (defScope st) (cxOf (L2.CX P w) P w K mg base N qual (defScope st) f cdv A outer s H E) g (fun cls d _ H => E cls d H) := by
    subst hg
    exact ⟨rfl, rfl, rfl, rfl, rfl, rfl, rfl, rfl, S.kind, fun _ h => h, fun _ h => h, fun _ h => .inr h, fun _ h => h, fun _ _ => rfl, S.nd, takes_of rfl rfl rfl rfl, hr.deeper _, hgd, rfl, passes_of rfl⟩
  have hs := hbody _ _ wf rfl rfl fun _ => rfl
  refine wpAny_mono (hs.run [] s1 (L2.start N vs) H _ I (wpF_of (n := n) (N := N) hN hv hc rl wp)) (fun fl s' hs => ?_) fun e s' hs => hs
  have fin : ∀ {σ' : L2.St} {H' : Hp} {v : V} {u : Value}, Inv (cxOf (L2.CX P w) P w K mg base N qual (defScope st) f cdv A outer s H E) [] σ' H' s' → RelV v u → Q v H' → CE outer P w H s Q u s' :=
    fun {σ' H' v u} J rv q => ⟨v, H', J.os, J.bare, J.base, J.hok, rv, q⟩
  cases fl with
  | ret u =>
    obtain ⟨v, σ', H', J, rv, q⟩ := hs
    exact fin J rv q
  | next =>
    obtain ⟨σ', H', J, q⟩ := hs
    exact fin (v := V.non) (u := Value.none) J rfl q
  | brk =>
    obtain ⟨_, _, _, q⟩ := hs
    exact False.elim q
  | cont =>
    obtain ⟨_, _, _, q⟩ := hs
    exact False.elim q
end
end Ov


set_option Elab.async false
set_option linter.all false
set_option maxRecDepth 100000
set_option maxHeartbeats 4000000
namespace Ov
open PySem PySem.Spec PyProof.Rows L2

/-! ### a call, by cells -/
def isS : Opn → Nat → Bool
  | .s j, i => j == i
  | _, _ => false
theorem isS_iff {o : Opn} {i : Nat} : isS o i = true ↔ o = .s i := by
  cases o with
  | v c => exact ⟨(fun h => nomatch h), (fun h => nomatch h)⟩
  | s j =>
    show (j == i) = true ↔ _
    rw [beq_iff_eq]
    exact ⟨fun h => by rw [h], fun h => by cases h; rfl⟩
/-- no owned thing is given twice -/
def dist : List Opn → List Cell → Bool
  | o :: os, c :: cs => (match o with
    | .s i => !c.own || os.all fun p => !isS p i
    | .v _ => true) && dist os cs
  | _, _ => true
def putF1 (S : Sta) (o : Opn) (c f : Cell) : Sta := match o with
  | .s i => if c.own = true then { S with sl := S.sl.set i (some f) } else S
  | .v _ => S
def putFin : Sta → List Opn → List Cell → List Cell → Sta
  | S, o :: os, c :: cs, f :: fs => putFin (putF1 S o c f) os cs fs
  | S, _, _, _ => S
def callM (F : FM) (os : List Opn) : M Opn := fun S => match os.mapM (curC S) with
  | some cs => if dist os cs = true then match F cs S.cnt with
      | .ok c fin cnt => .ok (.v c) { putFin S os cs fin with cnt := cnt }
      | .exc x fin cnt => .exc x { putFin S os cs fin with cnt := cnt }
      | .stuck => .stuck
    else .stuck
  | none => .stuck
theorem dist_at : ∀ {os : List Opn} {cs : List Cell} {k l i : Nat} {c : Cell}, dist os cs = true → os[k]? = some (.s i) → cs[k]? = some c → c.own = true → k < l → os[l]? ≠ some (.s i)
  | [], _, _, _, _, _, _, h, _, _, _ => by simp at h
  | _ :: _, [], _, _, _, _, _, _, h, _, _ => by simp at h
  | o :: os, c0 :: cs, 0, l, i, c, h, h1, h2, h3, hl => by
    cases h1
    cases h2
    intro z
    unfold dist at h
    rw [Bool.and_eq_true] at h
    have h4 := h.1
    dsimp only at h4
    rw [h3] at h4
    have h5 : (os.all fun p => !isS p i) = true := h4
    obtain ⟨l', rfl⟩ : ∃ l', l = l' + 1 := ⟨l - 1, by omega⟩
    have h6 := List.all_eq_true.mp h5 (.s i) (List.mem_of_getElem? (by simpa using z))
    rw [isS_iff.mpr rfl] at h6
    cases h6
  | o :: os, c0 :: cs, k + 1, l, i, c, h, h1, h2, h3, hl => by
    unfold dist at h
    rw [Bool.and_eq_true] at h
    obtain ⟨l', rfl⟩ : ∃ l', l = l' + 1 := ⟨l - 1, by omega⟩
    intro z
    exact dist_at h.2 (by simpa using h1) (by simpa using h2) h3 (Nat.lt_of_succ_lt_succ hl) (by simpa using z)
theorem putF1_len {S : Sta} {o : Opn} {c f : Cell} : (putF1 S o c f).sl.length = S.sl.length := by
  unfold putF1
  split
  · split
    · simp
    · rfl
  · rfl
theorem putF1_pin {S : Sta} {o : Opn} {c f : Cell} : (putF1 S o c f).pin = S.pin := by
  unfold putF1
  split
  · split <;> rfl
  · rfl
theorem putFin_len : ∀ {os : List Opn} {S : Sta} {cs fs : List Cell}, (putFin S os cs fs).sl.length = S.sl.length
  | [], _, _, _ => rfl
  | _ :: _, _, [], _ => rfl
  | _ :: _, _, _ :: _, [] => rfl
  | o :: os, S, c :: cs, f :: fs => by
    show (putFin (putF1 S o c f) os cs fs).sl.length = _
    rw [putFin_len, putF1_len]
theorem putFin_pin : ∀ {os : List Opn} {S : Sta} {cs fs : List Cell}, (putFin S os cs fs).pin = S.pin
  | [], _, _, _ => rfl
  | _ :: _, _, [], _ => rfl
  | _ :: _, _, _ :: _, [] => rfl
  | o :: os, S, c :: cs, f :: fs => by
    show (putFin (putF1 S o c f) os cs fs).pin = _
    rw [putFin_pin, putF1_pin]
/-- a slot that was not given keeps its cell -/
theorem putFin_out : ∀ {os : List Opn} {S : Sta} {cs fs : List Cell} {j : Nat}, (∀ (k : Nat) (c : Cell), os[k]? = some (.s j) → cs[k]? = some c → c.own ≠ true) → (putFin S os cs fs).sl[j]? = S.sl[j]?
  | [], _, _, _, _, _ => rfl
  | _ :: _, _, [], _, _, _ => rfl
  | _ :: _, _, _ :: _, [], _, _ => rfl
  | o :: os, S, c :: cs, f :: fs, j, h => by
    show (putFin (putF1 S o c f) os cs fs).sl[j]? = _
    rw [putFin_out fun k c' h1 h2 => h (k + 1) c' (by simpa using h1) (by simpa using h2)]
    unfold putF1
    split
    · rename_i i
      split
      · rename_i hc
        have hij : i ≠ j := fun z => h 0 c (by rw [z]; rfl) rfl hc
        exact List.getElem?_set_ne hij
      · rfl
    · rfl
/-- a slot whose thing was given has what became of it -/
theorem putFin_in : ∀ {os : List Opn} {S : Sta} {cs fs : List Cell} {k j : Nat} {c f : Cell}, dist os cs = true → os[k]? = some (.s j) → cs[k]? = some c → c.own = true → fs[k]? = some f → j < S.sl.length → (putFin S os cs fs).sl[j]? = some (some f)
  | [], _, _, _, _, _, _, _, _, h, _, _, _, _ => by simp at h
  | _ :: _, _, [], _, _, _, _, _, _, _, h, _, _, _ => by simp at h
  | _ :: _, _, _ :: _, [], _, _, _, _, _, _, _, _, h, _ => by simp at h
  | o :: os, S, c0 :: cs, f0 :: fs, 0, j, c, f, hd, h1, h2, h3, h4, hj => by
    cases h1
    cases h2
    cases h4
    show (putFin (putF1 S (.s j) c0 f0) os cs fs).sl[j]? = _
    rw [putFin_out fun k c' e1 e2 => ?_]
    · unfold putF1
      dsimp only
      rw [if_pos h3]
      exact List.getElem?_set_self hj
    · intro _
      exact dist_at (k := 0) (l := k + 1) hd rfl rfl h3 (Nat.succ_pos k) (by simpa using e1)
  | o :: os, S, c0 :: cs, f0 :: fs, k + 1, j, c, f, hd, h1, h2, h3, h4, hj => by
    show (putFin (putF1 S o c0 f0) os cs fs).sl[j]? = _
    have hd' : dist os cs = true := by
      unfold dist at hd
      rw [Bool.and_eq_true] at hd
      exact hd.2
    exact putFin_in hd' (by simpa using h1) (by simpa using h2) h3 (by simpa using h4) (by rw [putF1_len]; exact hj)

section
variable {g : Gh} {W : WX} {ids ids1 ids2 : List Addr} {S S1 : Sta} {σ : L2.St} {H H1 H2 : Hp} {Z : Addr → Prop} {os : List Opn} {vs : List V} {cs fin : List Cell} {cnt : Nat} {v : V} {c : Cell}
/-- what a callee must not touch -/
def Zc (S : Sta) (σ : L2.St) (Z : Addr → Prop) (os : List Opn) (vs : List V) (cs : List Cell) (b : Addr) : Prop := OA S σ (ZL Z os vs) b ∧ ¬ OwnA (entry cs 0 0) (vs.map some) b
structure Given (g : Gh) (ids : List Addr) (S : Sta) (σ : L2.St) (H : Hp) (Z : Addr → Prop) (os : List Opn) (vs : List V) (cs : List Cell) (ids1 : List Addr) (S1 : Sta) (H1 : Hp) : Prop where
  A : Aft g ids S σ H Z os vs ids1 S1 H1
  r : Rel g ids S σ H Z
  m : os.mapM (curC S1) = some cs
  d : dist os cs = true
theorem Given.len (G : Given g ids S σ H Z os vs cs ids1 S1 H1) : cs.length = os.length := (mapM_get G.m).1
theorem Given.opn (G : Given g ids S σ H Z os vs cs ids1 S1 H1) {k : Nat} {c : Cell} (h : cs[k]? = some c) : ∃ o, os[k]? = some o ∧ curC S1 o = some c := by
  have hk : k < os.length := by
    rw [← G.len]
    exact (List.getElem?_eq_some_iff.mp h).1
  exact ⟨os[k], List.getElem?_eq_getElem hk, (mapM_get G.m).2 k _ _ (List.getElem?_eq_getElem hk) h⟩
/-- an owned argument stands at a slot of its own, or is a temporary -/
theorem Given.own (G : Given g ids S σ H Z os vs cs ids1 S1 H1) {k : Nat} {d : D} {a : Addr} (h : cs[k]? = some ⟨true, d⟩) (hv : vs[k]? = some (.ref a)) :
    (∃ (i : Nat), os[k]? = some (.s i) ∧ S1.sl[i]? = some (some ⟨true, d⟩) ∧ σ[i]? = some (some (.ref a))) ∨ os[k]? = some (.v ⟨true, d⟩) := by
  obtain ⟨o, h1, h2⟩ := G.opn h
  cases o with
  | v c =>
    have e : c = ⟨true, d⟩ := Option.some.inj h2
    subst e
    exact .inr h1
  | s i =>
    obtain ⟨q1, c, q2⟩ := G.A.res k _ _ h1 hv
    have e : S1.sl[i]?.join = some (⟨true, d⟩ : Cell) := h2
    rw [q2] at e
    have e' : c = ⟨true, d⟩ := Option.some.inj e
    subst e'
    exact .inl ⟨i, h1, q2, q1⟩
theorem Given.ownA (G : Given g ids S σ H Z os vs cs ids1 S1 H1) {a : Addr} (h : OwnA (entry cs 0 0) (vs.map some) a) : OwnA S1 σ a ∨ ∃ (k : Nat) (d : D), os[k]? = some (.v ⟨true, d⟩) ∧ vs[k]? = some (.ref a) := by
  obtain ⟨k, d, h1, h2⟩ := h
  rcases G.own (entry_get.mp h1) (map_get.mp h2) with ⟨i, _, z1, z2⟩ | z
  · exact .inl ⟨i, d, z1, z2⟩
  · exact .inr ⟨k, d, z, map_get.mp h2⟩
theorem Given.sub (G : Given g ids S σ H Z os vs cs ids1 S1 H1) {a : Addr} (h : OwnA (entry cs 0 0) (vs.map some) a) : OA S1 σ (ZL Z os vs) a := by
  rcases G.ownA h with z | ⟨k, d, z1, z2⟩
  · exact .inr z
  · exact .inl (.inr ⟨k, d, z1, z2⟩)
theorem Given.notZ (G : Given g ids S σ H Z os vs cs ids1 S1 H1) {a : Addr} (h : OwnA (entry cs 0 0) (vs.map some) a) : ¬ Z a := fun z => by
  rcases G.ownA h with y | ⟨k, d, z1, z2⟩
  · exact G.A.rel.apart a y (.inl z)
  · exact G.r.trk a z (G.A.new k d a z1 z2)
/-- the callee's start -/
theorem Given.enter (G : Given g ids S σ H Z os vs cs ids1 S1 H1) : Rel g ids1 (entry cs 0 S1.cnt) (vs.map some) H1 (Zc S1 σ Z os vs cs) := by
  have A := G.A
  have gr : ∀ a, OA (entry cs 0 S1.cnt) (vs.map some) (Zc S1 σ Z os vs cs) a → OA S1 σ (ZL Z os vs) a := fun a z => z.elim (fun z => z.1) fun z => G.sub (entry_own0.mp z)
  refine ⟨?_, fun i c e => ?_, fun i j di dj a h1 h2 h3 h4 => ?_, fun a z y => y.2 (entry_own0.mp z), fun a z => A.rel.oTrk a z.1, A.rel.cnt, A.rel.nd, A.rel.idt⟩
  · show (cs.map some ++ List.replicate 0 none).length = _
    rw [List.length_append, List.length_map, List.length_map, List.length_replicate, G.len, A.len]
    rfl
  · have hc := entry_get.mp e
    obtain ⟨o, h1, h2⟩ := G.opn hc
    have hi : i < vs.length := by
      rw [A.len, ← G.len]
      exact (List.getElem?_eq_some_iff.mp hc).1
    have hv : vs[i]? = some vs[i] := List.getElem?_eq_getElem hi
    refine ⟨vs[i], map_get.mpr hv, ?_⟩
    have q := A.res i o _ h1 hv
    cases o with
    | v c' =>
      have e : c' = c := Option.some.inj h2
      subst e
      exact CellRep.mono (c := c') q (fun _ _ _ _ q => q) .refl (fun a z => .inl (gr a z)) .rfl
    | s j =>
      obtain ⟨q1, c', q2⟩ := q
      have e : S1.sl[j]?.join = some c := h2
      rw [q2] at e
      have e' : c' = c := Option.some.inj e
      subst e'
      obtain ⟨w, w1, w2⟩ := A.rel.rep j c' q2
      rw [q1] at w1
      have e3 : vs[i] = w := Option.some.inj (Option.some.inj w1)
      rw [e3]
      exact w2.mono (fun _ _ _ _ q => q) .refl (fun a z => .inl (gr a z)) .rfl
  · have h1 := entry_get.mp h1
    have h2 := entry_get.mp h2
    have h3 := map_get.mp h3
    have h4 := map_get.mp h4
    rcases G.own h1 h3 with ⟨si, x1, x2, x3⟩ | x
    · rcases G.own h2 h4 with ⟨sj, y1, y2, y3⟩ | y
      · have e := A.rel.inj si sj di dj a x2 y2 x3 y3
        subst e
        rcases Nat.lt_trichotomy i j with z | z | z
        · exact (dist_at G.d x1 h1 rfl z y1).elim
        · exact z
        · exact (dist_at G.d y1 h2 rfl z x1).elim
      · exact (A.rel.apart a ⟨si, di, x2, x3⟩ (.inr ⟨j, dj, y, h4⟩)).elim
    · rcases G.own h2 h4 with ⟨sj, y1, y2, y3⟩ | y
      · exact (A.rel.apart a ⟨sj, dj, y2, y3⟩ (.inr ⟨i, di, x, h3⟩)).elim
      · exact A.two i j di dj a x y h3 h4
/-- the caller's slots behind the call -/
theorem Given.back (G : Given g ids S σ H Z os vs cs ids1 S1 H1) {Z' Zr : Addr → Prop} (rel : Rel g ids2 (entry fin 0 cnt) (vs.map some) H2 (fun b => Zc S1 σ Z os vs cs b ∨ Zr b)) (hr : ∀ a, Zr a → H1 a = none) (hl : fin.length = cs.length)
    (keep : Kept H1 H2 (OwnA (entry cs 0 0) (vs.map some))) (sub : ∀ (i : Nat) (d : D), fin[i]? = some ⟨true, d⟩ → ∃ d0, cs[i]? = some ⟨true, d0⟩) (hi : Ids ids1 ids2) (hZ : ∀ a, Z' a → Z a ∨ Zr a) :
    Rel g ids2 { putFin S1 os cs fin with cnt := cnt } σ H2 Z' ∧ (∀ a, OA { putFin S1 os cs fin with cnt := cnt } σ Z' a → OA (entry fin 0 cnt) (vs.map some) (fun b => Zc S1 σ Z os vs cs b ∨ Zr b) a) ∧
      (∀ (i : Nat) (d : D), (putFin S1 os cs fin).sl[i]? = some (some ⟨true, d⟩) → ∃ d0, S1.sl[i]? = some (some ⟨true, d0⟩)) ∧ (∀ (i : Nat) (c : Cell), S1.sl[i]? = some (some c) → ∃ c', (putFin S1 os cs fin).sl[i]? = some (some c')) := by
  have A := G.A
  -- the cell at a slot: what became of a given thing, or as it was
  have get : ∀ (j : Nat), (∃ (k : Nat) (c f : Cell), os[k]? = some (.s j) ∧ cs[k]? = some c ∧ c.own = true ∧ fin[k]? = some f ∧ S1.sl[j]? = some (some c) ∧ vs[k]?.map some = σ[j]? ∧ (putFin S1 os cs fin).sl[j]? = some (some f)) ∨
      ((∀ (k : Nat) (c : Cell), os[k]? = some (.s j) → cs[k]? = some c → c.own ≠ true) ∧ (putFin S1 os cs fin).sl[j]? = S1.sl[j]?) := fun j => by
    by_cases h : ∃ (k : Nat) (c : Cell), os[k]? = some (.s j) ∧ cs[k]? = some c ∧ c.own = true
    · obtain ⟨k, c, h1, h2, h3⟩ := h
      obtain ⟨hk, _⟩ := List.getElem?_eq_some_iff.mp h2
      have hf : fin[k]? = some (fin[k]'(by rw [hl]; exact hk)) := List.getElem?_eq_getElem _
      have hv : vs[k]? = some (vs[k]'(by rw [A.len, ← G.len]; exact hk)) := List.getElem?_eq_getElem _
      obtain ⟨o, o1, o2⟩ := G.opn h2
      rw [h1] at o1
      cases o1
      obtain ⟨q1, c', q2⟩ := A.res k _ _ h1 hv
      have e : S1.sl[j]?.join = some c := o2
      rw [q2] at e
      have e' : c' = c := Option.some.inj e
      subst e'
      exact .inl ⟨k, c', _, h1, h2, h3, hf, q2, by rw [hv, q1]; rfl, putFin_in G.d h1 h2 h3 hf (List.getElem?_eq_some_iff.mp q2).1⟩
    · have h' : ∀ (k : Nat) (c : Cell), os[k]? = some (.s j) → cs[k]? = some c → c.own ≠ true := fun k c h1 h2 h3 => h ⟨k, c, h1, h2, h3⟩
      exact .inr ⟨h', putFin_out h'⟩
  -- an address owned by a slot that was not given is not the callee's
  have apart : ∀ {j : Nat} {d : D} {a : Addr}, (∀ (k : Nat) (c : Cell), os[k]? = some (.s j) → cs[k]? = some c → c.own ≠ true) → S1.sl[j]? = some (some ⟨true, d⟩) → σ[j]? = some (some (.ref a)) → ¬ OwnA (entry cs 0 0) (vs.map some) a := fun {j d a} hn h1 h2 z => by
    obtain ⟨k, dk, z1, z2⟩ := z
    rcases G.own (entry_get.mp z1) (map_get.mp z2) with ⟨i, y1, y2, y3⟩ | y
    · have e := A.rel.inj i j dk d a y2 h1 y3 h2
      subst e
      exact hn k _ y1 (entry_get.mp z1) rfl
    · exact A.rel.apart a ⟨j, d, h1, h2⟩ (.inr ⟨k, dk, y, map_get.mp z2⟩)
  -- what is owned behind the call
  have own : ∀ {j : Nat} {d : D} {a : Addr}, (putFin S1 os cs fin).sl[j]? = some (some ⟨true, d⟩) → σ[j]? = some (some (.ref a)) →
      (∃ (k : Nat), os[k]? = some (.s j) ∧ fin[k]? = some ⟨true, d⟩ ∧ vs[k]? = some (.ref a)) ∨ ((∀ (k : Nat) (c : Cell), os[k]? = some (.s j) → cs[k]? = some c → c.own ≠ true) ∧ S1.sl[j]? = some (some ⟨true, d⟩)) := fun {j d a} h1 h2 => by
    rcases get j with ⟨k, c, f, g1, g2, g3, g4, g5, g6, g7⟩ | ⟨g1, g2⟩
    · rw [g7] at h1
      cases h1
      rw [h2] at g6
      cases e : vs[k]? with
      | none => rw [e] at g6; cases g6
      | some u =>
        rw [e] at g6
        have e' : some u = some (V.ref a) := Option.some.inj g6
        exact .inl ⟨k, g1, g4, by rw [e, e']⟩
    · rw [g2] at h1
      exact .inr ⟨g1, h1⟩
  have gr : ∀ a, OA { putFin S1 os cs fin with cnt := cnt } σ Z' a → OA (entry fin 0 cnt) (vs.map some) (fun b => Zc S1 σ Z os vs cs b ∨ Zr b) a := fun a z => by
    rcases z with z | ⟨j, d, h1, h2⟩
    · rcases hZ a z with z | z
      · exact .inl (.inl ⟨.inl (.inl z), fun y => G.notZ y z⟩)
      · exact .inl (.inr z)
    · rcases own h1 h2 with ⟨k, y1, y2, y3⟩ | ⟨y1, y2⟩
      · exact .inr ⟨k, d, entry_get.mpr y2, map_get.mpr y3⟩
      · exact .inl (.inl ⟨.inr ⟨j, d, y2, h2⟩, apart y1 y2 h2⟩)
  have sub' : ∀ (i : Nat) (d : D), (putFin S1 os cs fin).sl[i]? = some (some ⟨true, d⟩) → ∃ d0, S1.sl[i]? = some (some ⟨true, d0⟩) := fun i d h => by
    rcases get i with ⟨k, c, f, g1, g2, g3, g4, g5, g6, g7⟩ | ⟨g1, g2⟩
    · obtain ⟨co, d0⟩ := c
      have e : co = true := g3
      subst e
      exact ⟨d0, g5⟩
    · exact ⟨d, by rw [← g2]; exact h⟩
  have gr1 : Grown H1 (OA S1 σ (ZL Z os vs)) (OA { putFin S1 os cs fin with cnt := cnt } σ Z') := fun a z => by
    rcases z with z | ⟨j, d, h1, h2⟩
    · rcases hZ a z with z | z
      · exact .inl (.inl (.inl z))
      · exact .inr (hr a z)
    · obtain ⟨d0, h0⟩ := sub' j d h1
      exact .inl (.inr ⟨j, d0, h0, h2⟩)
  refine ⟨⟨?_, fun j c h => ?_, fun i j di dj a h1 h2 h3 h4 => ?_, fun a z y => ?_, fun a z => ?_, rel.cnt, rel.nd, rel.idt⟩, gr, sub', fun i c h => ?_⟩
  · show (putFin S1 os cs fin).sl.length = _
    rw [putFin_len]
    exact A.rel.len
  · rcases get j with ⟨k, c0, f, g1, g2, g3, g4, g5, g6, g7⟩ | ⟨g1, g2⟩
    · have h : (putFin S1 os cs fin).sl[j]? = some (some c) := h
      rw [g7] at h
      cases h
      obtain ⟨v, v1, v2⟩ := rel.rep k c (entry_get.mpr g4)
      refine ⟨v, ?_, v2.mono (fun _ _ _ _ q => q) .refl (fun a z => .inl (gr a z)) .rfl⟩
      rw [← g6, map_get.mp v1]
      rfl
    · have h : (putFin S1 os cs fin).sl[j]? = some (some c) := h
      rw [g2] at h
      obtain ⟨v, v1, v2⟩ := A.rel.rep j c h
      refine ⟨v, v1, v2.mono (fun hc a o e1 e2 => keep a o e2 ?_) (fun a o e n => keep a o e fun z => n (G.sub z)) gr1 hi⟩
      obtain ⟨co, d⟩ := c
      have e : co = true := hc
      subst e
      exact apart g1 h (by rw [v1, e1])
  · -- two slots
    have key : ∀ {i j : Nat} {di dj : D}, (putFin S1 os cs fin).sl[i]? = some (some ⟨true, di⟩) → (putFin S1 os cs fin).sl[j]? = some (some ⟨true, dj⟩) → σ[i]? = some (some (.ref a)) → σ[j]? = some (some (.ref a)) → i = j := fun {i j di dj} h1 h2 h3 h4 => by
      obtain ⟨d0, z1⟩ := sub' i di h1
      obtain ⟨d1, z2⟩ := sub' j dj h2
      exact A.rel.inj i j d0 d1 a z1 z2 h3 h4
    exact key h1 h2 h3 h4
  · obtain ⟨j, d, h1, h2⟩ := z
    obtain ⟨d0, h0⟩ := sub' j d h1
    rcases hZ a y with y | y
    · exact A.rel.apart a ⟨j, d0, h0, h2⟩ (.inl y)
    · exact A.rel.ownTrk ⟨j, d0, h0, h2⟩ (hr a y)
  · rcases hZ a z with z | z
    · exact rel.trk a (.inl ⟨.inl (.inl z), fun y => G.notZ y z⟩)
    · exact rel.trk a (.inr z)
  · rcases get i with ⟨k, c0, f, g1, g2, g3, g4, g5, g6, g7⟩ | ⟨g1, g2⟩
    · exact ⟨f, g7⟩
    · exact ⟨c, by rw [g2]; exact h⟩
theorem Given.keepS (G : Given g ids S σ H Z os vs cs ids1 S1 H1) (keep : Kept H1 H2 (OwnA (entry cs 0 0) (vs.map some))) : Kept H H2 (OwnA S σ) := fun a o e n => by
  refine keep a o (G.A.keep a o e n) fun z => ?_
  rcases G.ownA z with z | ⟨k, d, z1, z2⟩
  · exact n (OwnA.less G.A.sub z)
  · rw [G.A.new k d a z1 z2] at e
    cases e
/-- behind a call -/
theorem Given.ok (G : Given g ids S σ H Z os vs cs ids1 S1 H1) (B : FA g ids1 cs vs H1 (Zc S1 σ Z os vs cs) c v ids2 fin cnt H2) : Aft g ids S σ H Z [.v c] [v] ids2 { putFin S1 os cs fin with cnt := cnt } H2 := by
  have A := G.A
  have hz : ∀ a, ZL Z [.v c] [v] a → Z a ∨ (c.own = true ∧ v = .ref a) := by
    rintro a (z | ⟨k, d', h1, h2⟩)
    · exact .inl z
    · cases k with
      | zero => cases h1; cases h2; exact .inr ⟨rfl, rfl⟩
      | succ k => simp at h1
  obtain ⟨r2, gr, sub, bnd⟩ := G.back (Z' := ZL Z [.v c] [v]) (Zr := fun b => c.own = true ∧ v = .ref b) B.rel (fun a z => B.new a z.1 z.2) B.len B.keep B.sub B.ids hz
  refine ⟨r2, rfl, fun i o w h1 h2 => ?_, fun i d a h1 h2 => ?_, fun i j d e a h1 h2 _ _ => ?_, G.keepS B.keep, fun a h => B.trk a (A.trk a h), fun i d h => ?_, fun i x h => ?_, A.ids.trans B.ids, putFin_pin.trans A.pin⟩
  · cases i with
    | zero =>
      cases h1
      cases h2
      exact B.res.mono (fun _ _ _ _ q => q) .refl (fun a z => .inl (gr a z)) .rfl
    | succ i => simp at h1
  · cases i with
    | zero =>
      cases h1
      cases h2
      exact none_back A.trk (B.new a rfl rfl)
    | succ i => simp at h1
  · cases i with
    | zero =>
      cases j with
      | zero => rfl
      | succ j => simp at h2
    | succ i => simp at h1
  · obtain ⟨d0, h0⟩ := sub i d h
    exact A.sub i d0 h0
  · obtain ⟨c1, e1⟩ := A.bnd i x h
    exact bnd i c1 e1
theorem Given.exc {x : Exn} {cls : Value} {d : Option Addr} (G : Given g ids S σ H Z os vs cs ids1 S1 H1) (B : FXA g ids1 cs vs H1 (Zc S1 σ Z os vs cs) x cls d ids2 fin cnt H2) : AftX g ids S σ H Z x cls d ids2 { putFin S1 os cs fin with cnt := cnt } H2 := by
  have A := G.A
  have er : (fun b => Zc S1 σ Z os vs cs b ∨ False) = Zc S1 σ Z os vs cs := by
    funext b
    exact propext (or_iff_left id)
  obtain ⟨r2, gr, sub, bnd⟩ := G.back (Z' := Z) (Zr := fun _ => False) (by rw [er]; exact B.rel) (fun a z => z.elim) B.len B.keep B.sub B.ids fun a z => .inl z
  rw [er] at gr
  refine ⟨r2, B.cls, ?_, G.keepS B.keep, fun a h => B.trk a (A.trk a h), fun i d h => ?_, fun i x h => ?_, A.ids.trans B.ids, putFin_pin.trans A.pin⟩
  · rcases B.pay with z | ⟨p, ws, h1, h2, h3, h4⟩
    · exact .inl z
    · exact .inr ⟨p, ws, h1, h2, fun z => h3 (gr p z), h4.mono .refl (fun a z => .inl (gr a z)) .rfl⟩
  · obtain ⟨d0, h0⟩ := sub i d h
    exact A.sub i d0 h0
  · obtain ⟨c1, e1⟩ := A.bnd i x h
    exact bnd i c1 e1
/-- from the arguments to the promise -/
theorem wp_call {F : FM} {np : Nat} {Q : VK} (A : Aft g ids S σ H Z os vs ids1 S1 H1) (r : Rel g ids S σ H Z) (hn : os.length = np) (h : Wp g W ids S σ H Z Q (callM F os S1)) : spF g np F vs H1 Q (WE W σ) := by
  unfold callM at h
  cases e : os.mapM (curC S1) with
  | none => rw [e] at h; exact h.elim
  | some cs =>
    rw [e] at h
    dsimp only at h
    by_cases hd : dist os cs = true
    · rw [if_pos hd] at h
      have G : Given g ids S σ H Z os vs cs ids1 S1 H1 := ⟨A, r, e, hd⟩
      refine ⟨A.len.trans hn, ids1, cs, S1.cnt, _, G.len.trans hn, G.enter, ?_⟩
      cases e2 : F cs S1.cnt with
      | stuck => rw [e2] at h; exact h.elim
      | ok c fin cnt =>
        rw [e2] at h
        exact fun v H2 ids2 B => h v H2 ids2 (G.ok B)
      | exc x fin cnt =>
        rw [e2] at h
        exact fun cls d H2 ids2 B => h cls d H2 ids2 (G.exc B)
    · rw [if_neg hd] at h
      exact h.elim
end

section
variable {P : Program} {w : World} {K : PySem.W.Frag} {mg : Str → Option Value} {base : Heap} {k k' : Nat} {X : Cx} {g : Gh} {W : WX} {N : List Str} {sc : Scope} {f : Addr} {fd : FuncData} {ps : List Str} {sp : Sp}
theorem FnG.mono {qr qr' : Bool} (F : FnG qr P w K mg base k f fd ps sp) (hq : qr = true → qr' = true) (h : k ≤ k') : FnG qr' P w K mg base k' f fd ps sp := ⟨F.len, fun A outer s H args us vs Q E hr hg => F.run A outer s H args us vs Q E (hr.mono h) fun z => hg (hq z)⟩
/-- the callee runs -/
theorem run_fnG {pins : List (Addr × Obj)} {σ : L2.St} {H : Hp} {s : Shared} {Q : VK} {us : List Value} {kws : List (Str × Value)} {us' : List Value} {vs : List V} {qr : Bool} (C : Wf qr P w K mg base k N sc X g W) (F : FnG qr P w K mg base k f fd ps sp) (hb : BindsTo s fd ⟨us, kws⟩ (ps.zip us'))
    (I : Inv X pins σ H s) (r : Vals vs us') (h : sp vs H Q (WE W σ)) : wpAny (model X.prog X.w) X.A (call (.ref f) us kws) (EP X pins σ Q) X.xe s := by
  have F' : FnG qr X.prog X.w X.K X.mg X.base k f fd ps sp := by rw [C.P, C.w, C.K, C.m, C.b]; exact F
  refine wpAny_call (codeAny_mono (F'.run X.A X.stack s H ⟨us, kws⟩ us' vs Q (WE W σ) C.rm C.gd I.env0 hb r h) fun r s' hq => ?_)
  cases r with
  | error e => exact passAt C.tk σ pins H s e s' I hq
  | ok fl =>
    cases fl with
    | ret u => exact I.after hq
    | next => exact False.elim hq
    | brk => exact False.elim hq
    | cont => exact False.elim hq
def tCallG (sp : Sp) (W : WX) (t : TA) : TE := fun σ H Q => t σ H fun vs H1 => sp vs H1 Q (WE W σ)
/-- f(e, ..) -/
theorem de_call {x : Str} {p pos : Pos} {e : Expr} {es : List Expr} {ms : M (List Opn)} {F : FM} {np : Nat} {qr qr' : Bool} (C : Wf qr P w K mg base k N sc X g W) (G : FnG qr' P w K mg base k' f fd ps (spF g np F)) (hq : qr' = true → qr = true) (hk : k' ≤ k) (hm : mg x = some (.ref f)) (hkp : PySem.W.keepIn K (.ref f) = true)
    (hb : Binds K fd ps []) (hg : sc.names.lookup x = some .globalImplicit) (ha : DA X g W (e :: es) ms) (hn : ∀ S os S', ms S = .ok os S' → os.length = np) (hdb : (x == ("__debug__" : Str)) = false)
    (he : starEach (e :: es) X.env = (false, eval e X.env) :: starEach es X.env) (hpl : (backTo pos (starEach es X.env)).any (·.1) = false) : DE X g W (.Call (.Name x p) (e :: es) [] pos) (M.bind ms (callM F)) := by
  refine ⟨fun pins s σ H Q I q => ?_⟩
  have q' : tCallG (spF g np F) W (tDs g W ms) σ H Q := by
    obtain ⟨ids, S, Z, r, q⟩ := tD_wp.mp q
    refine tDs_wp.mpr ⟨ids, S, Z, r, ?_⟩
    unfold M.bind at q
    cases e1 : ms S with
    | stuck => rw [e1] at q; exact q
    | exc x S1 => rw [e1] at q; exact q
    | ok os S1 =>
      rw [e1] at q
      exact fun vs H1 ids1 A => wp_call A r (hn S os S1 e1) q
  have hgl : Gl X x := by
    exact C.glb x hg
  refine wpAny_Call_Name_kw (ld_glob I hgl (by rw [C.m]; exact hm) ?_ hdb)
  refine PySem.W.callWith_K (h₀ := X.base) I.ok.mod.kin (by rw [C.K]; exact hkp) (thn (ha.run pos pins s σ H _ I q') fun us s1 ⟨vs, H1, I1, r, q1⟩ => ⟨I1.kIn, ?_⟩) he hpl
  have GF := G.mono hq hk
  have hl : us.length = ps.length := by rw [← r.length]; exact GF.len _ _ _ _ q1
  have b := hb s1 us (by rw [← C.K]; exact I1.kIn) (by rw [List.append_nil]; exact hl)
  rw [List.append_nil] at b
  exact run_fnG C GF b I1 r q1
end
end Ov


set_option Elab.async false
set_option linter.all false
set_option maxRecDepth 100000
set_option maxHeartbeats 4000000
namespace Ov
open PySem PySem.Spec PyProof.Rows L2

/-! ### data as the library has it -/
mutual
def py : D → Option PyData
  | .non => some .none
  | .bl b => some (.bool b)
  | .int i => some (.int i)
  | .str x => some (.str x)
  | .tup ds => (pyL ds).map .tuple
  | .lst ds => (pyL ds).map .list
  | .op _ => none
  | .cls _ => none
  | .scr _ => none
  | .ins _ _ _ => none
def pyL : List D → Option (List PyData)
  | [] => some []
  | d :: ds => match py d, pyL ds with
    | some p, some ps => some (p :: ps)
    | _, _ => none
end
theorem pyL_get : ∀ {ds : List D} {ps : List PyData}, pyL ds = some ps → ps.length = ds.length ∧ ∀ (i : Nat) (d : D), ds[i]? = some d → ∃ p, ps[i]? = some p ∧ py d = some p
  | [], ps, h => by
    cases (show some [] = some ps from by rw [← h, pyL])
    exact ⟨rfl, fun i d e => by simp at e⟩
  | d :: ds, ps, h => by
    rw [pyL] at h
    cases e : py d with
    | none => rw [e] at h; cases h
    | some p =>
      cases e2 : pyL ds with
      | none => rw [e, e2] at h; cases h
      | some qs =>
        rw [e, e2] at h
        have h' : ps = p :: qs := (Option.some.inj h).symm
        subst h'
        obtain ⟨l, k⟩ := pyL_get e2
        refine ⟨by simp [l], fun i d' h' => ?_⟩
        cases i with
        | zero => cases h'; exact ⟨p, rfl, e⟩
        | succ i =>
          obtain ⟨q, q1, q2⟩ := k i d' (by simpa using h')
          exact ⟨q, by simpa using q1, q2⟩
theorem dpAll_of {K : PySem.W.Frag} {H : Hp} : ∀ {xs : List V} {ps : List PyData}, xs.length = ps.length → (∀ (i : Nat) (x : V) (p : PyData), xs[i]? = some x → ps[i]? = some p → Dp K H x p) → DpAll K H xs ps
  | [], [], _, _ => .nil
  | x :: xs, p :: ps, h, k => .cons (k 0 x p rfl rfl) (dpAll_of (Nat.succ.inj h) fun i y q a b => k (i + 1) y q (by simpa using a) (by simpa using b))
section
variable {g : Gh} {ids : List Addr} {H : Hp} {O : Addr → Prop} {d e : D} {v w : V}
theorem Rep.dp (r : Rep g ids H O d v) : ∀ {p : PyData}, py d = some p → Dp g.K H v p := by
  induction r with
  | non => intro p h; cases (show some PyData.none = some p from by rw [← h, py]); exact .non
  | bl b => intro p h; cases (show some (PyData.bool b) = some p from by rw [← h, py]); exact .bl b
  | int i => intro p h; cases (show some (PyData.int i) = some p from by rw [← h, py]); exact .int i
  | str x => intro p h; cases (show some (PyData.str x) = some p from by rw [← h, py]); exact .str x
  | tup h ho l r ih =>
    intro p hp
    rename_i a xs ds
    rw [py] at hp
    cases e : pyL ds with
    | none => rw [e] at hp; cases hp
    | some ps =>
      rw [e] at hp
      cases hp
      obtain ⟨l2, k⟩ := pyL_get e
      refine .tup (.of h) (dpAll_of (by omega) fun i x p a b => ?_)
      have hi : i < ds.length := by
        have := (List.getElem?_eq_some_iff.mp b).1
        omega
      obtain ⟨q, q1, q2⟩ := k i _ (List.getElem?_eq_getElem hi)
      rw [b] at q1
      cases q1
      exact ih i _ x (List.getElem?_eq_getElem hi) a q2
  | lst h ho l r ih =>
    intro p hp
    rename_i a xs ds
    rw [py] at hp
    cases e : pyL ds with
    | none => rw [e] at hp; cases hp
    | some ps =>
      rw [e] at hp
      cases hp
      obtain ⟨l2, k⟩ := pyL_get e
      refine .lst (.of h) (dpAll_of (by omega) fun i x p a b => ?_)
      have hi : i < ds.length := by
        have := (List.getElem?_eq_some_iff.mp b).1
        omega
      obtain ⟨q, q1, q2⟩ := k i _ (List.getElem?_eq_getElem hi)
      rw [b] at q1
      cases q1
      exact ih i _ x (List.getElem?_eq_getElem hi) a q2
  | op v => intro p h; rw [py] at h; cases h
  | cls h => intro p h; rw [py] at h; cases h
  | scr h => intro p h; rw [py] at h; cases h
  | ins => intro p h; rw [py] at h; cases h
theorem RepL.dp {ds : List D} {xs : List V} {ps : List PyData} (r : RepL g ids H O ds xs) (h : pyL ds = some ps) : DpAll g.K H xs ps := by
  obtain ⟨l2, k⟩ := pyL_get h
  refine dpAll_of (by rw [r.1, l2]) fun i x p a b => ?_
  have hi : i < ds.length := by
    have := (List.getElem?_eq_some_iff.mp b).1
    omega
  obtain ⟨q, q1, q2⟩ := k i _ (List.getElem?_eq_getElem hi)
  rw [b] at q1
  cases q1
  exact (r.2 i _ x (List.getElem?_eq_getElem hi) a).dp q2
theorem Look.dp (l : Look g ids H O d v) {p : PyData} (h : py d = some p) : Dp g.K H v p := by
  cases d with
  | non => cases l; cases (show some PyData.none = some p from by rw [← h, py]); exact .non
  | bl b => cases l; cases (show some (PyData.bool b) = some p from by rw [← h, py]); exact .bl b
  | int i => cases l; cases (show some (PyData.int i) = some p from by rw [← h, py]); exact .int i
  | str x => cases l; cases (show some (PyData.str x) = some p from by rw [← h, py]); exact .str x
  | tup ds =>
    obtain ⟨a, xs, rfl, e, r⟩ := l
    rw [py] at h
    cases e2 : pyL ds with
    | none => rw [e2] at h; cases h
    | some ps => rw [e2] at h; cases h; exact .tup (.of e) (r.dp e2)
  | lst ds =>
    obtain ⟨a, xs, rfl, e, r⟩ := l
    rw [py] at h
    cases e2 : pyL ds with
    | none => rw [e2] at h; cases h
    | some ps => rw [e2] at h; cases h; exact .lst (.of e) (r.dp e2)
  | op v => rw [py] at h; cases h
  | cls v => rw [py] at h; cases h
  | scr v => rw [py] at h; cases h
  | ins => rw [py] at h; cases h
end
/-! ### the operators by content -/
def cv (d : D) : Option Cell := some ⟨false, d⟩
def dAdd : D → D → Option Cell
  | .int a, .int b => cv (.int (a + b))
  | .str a, .str b => if a.length + b.length ≤ sizeLine then cv (.str (a ++ b)) else none
  | .lst a, .lst b => if a.length + b.length ≤ sizeLine then some ⟨true, .lst (a ++ b)⟩ else none
  | _, _ => none
def dSub : D → D → Option Cell
  | .int a, .int b => cv (.int (a - b))
  | _, _ => none
def dMul : D → D → Option Cell
  | .int a, .int b => if a.natAbs.log2 + b.natAbs.log2 < 1000000 then cv (.int (a * b)) else none
  | .lst a, .int b => if -(2 ^ 63) ≤ b ∧ b < 2 ^ 63 ∧ a.length * b.toNat ≤ sizeLine then some ⟨true, .lst (List.replicate b.toNat a).flatten⟩ else none
  | _, _ => none
def dFdiv : D → D → Option Cell
  | .int a, .int b => if 0 < b ∧ b.natAbs.log2 < 9000 then cv (.int (a / b)) else none
  | _, _ => none
def dMod : D → D → Option Cell
  | .int a, .int b => if 0 < b then cv (.int (a % b)) else none
  | _, _ => none
def dPow : D → D → Option Cell
  | .int a, .int b => if 0 ≤ b ∧ (Builtin.Int.intBits a : Int) * b ≤ 2 ^ 27 then cv (.int (a ^ b.toNat)) else none
  | _, _ => none
def dLt : D → D → Option Cell
  | .int a, .int b => cv (.bl (decide (a < b)))
  | _, _ => none
def dLe : D → D → Option Cell
  | .int a, .int b => cv (.bl (decide (a ≤ b)))
  | _, _ => none
def dGt : D → D → Option Cell
  | .int a, .int b => cv (.bl (decide (b < a)))
  | _, _ => none
def dGe : D → D → Option Cell
  | .int a, .int b => cv (.bl (decide (b ≤ a)))
  | _, _ => none
def eqP (p q : Option PyData) : Option Bool := match p, q with
  | some p, some q => if SeqAt.shaped p = true ∧ SeqAt.shaped q = true then some (PyData.eqv p q) else none
  | _, _ => none
def dEqB : D → D → Option Bool
  | .ins m _ _, .ins n _ _ => some (decide (m = n))
  | d, e => eqP (py d) (py e)
def dEqP (d e : D) : Option Cell := (eqP (py d) (py e)).map fun b => ⟨false, .bl b⟩
def dNeP (d e : D) : Option Cell := (eqP (py d) (py e)).map fun b => ⟨false, .bl (!b)⟩
def dIsN : D → D → Option Cell
  | d, .non => match d with
    | .op _ => none
    | .non => cv (.bl true)
    | _ => cv (.bl false)
  | _, _ => none
def dIsNotN : D → D → Option Cell
  | d, .non => match d with
    | .op _ => none
    | .non => cv (.bl false)
    | _ => cv (.bl true)
  | _, _ => none
def sign1 (x : Str) : Option Nat := match x.cps.toList with
  | [c] => some c
  | _ => none
def dInB : D → D → Option Bool
  | .str x, .str y => (sign1 x).map fun c => decide (c ∈ y.cps.toList)
  | d, .lst ds => match py d, pyL ds with
    | some p, some ps => if SeqAt.shaped p = true ∧ SeqAt.shaped (.list ps) = true then some (ps.any fun z => PyData.eqv z p) else none
    | _, _ => none
  | _, _ => none
def dIn (d e : D) : Option Cell := (dInB d e).map fun b => ⟨false, .bl b⟩
def dNotIn (d e : D) : Option Cell := (dInB d e).map fun b => ⟨false, .bl (!b)⟩
def dNeg : D → Option Cell
  | .int a => cv (.int (-a))
  | _ => none
def dIx : D → D → Option Cell
  | .lst ds, .int i => (atI ds i).map fun d => ⟨false, d⟩
  | .tup ds, .int i => (atI ds i).map fun d => ⟨false, d⟩
  | .str x, .int i => if x.length ≤ sizeLine then (atI x.cps.toList i).map fun c => ⟨false, .str ⟨#[c]⟩⟩ else none
  | .scr ns, .int i => (atI ns i).map fun n => ⟨false, .int n⟩
  | _, _ => none
section
variable {X : Cx} {g : Gh}
/-- rules joined -/
def rAddD : R2 := fun x y H Q => (rI0 (fun i j => .int (i + j)) x y H Q ∨ (∃ i j, x = .str i ∧ y = .str j ∧ i.length + j.length ≤ sizeLine ∧ Q (.str (i ++ j)) H)) ∨ rCat x y H Q
theorem op_addD : OpR X (binaryOp .Add) rAddD := opR_or (opR_or op_add op_add_str) op_cat
theorem pu_add : Pure2 g rAddD dAdd := by
  intro ids H O d e v w c Q l1 l2 f q
  cases d <;> cases e <;> try (cases f; done)
  · cases f
    cases l1
    cases l2
    exact .inl (.inl ⟨_, _, rfl, rfl, q _ _ (.val (.int _))⟩)
  · cases l1
    cases l2
    rename_i a b
    have f' : (if a.length + b.length ≤ sizeLine then cv (.str (a ++ b)) else none) = some c := f
    by_cases h : a.length + b.length ≤ sizeLine
    · rw [if_pos h] at f'
      cases f'
      exact .inl (.inr ⟨_, _, rfl, rfl, h, q _ _ (.val (.str _))⟩)
    · rw [if_neg h] at f'
      cases f'
  · rename_i a b
    obtain ⟨p1, xs, rfl, e1, r1⟩ := l1
    obtain ⟨p2, ys, rfl, e2, r2⟩ := l2
    have f' : (if a.length + b.length ≤ sizeLine then some (⟨true, .lst (a ++ b)⟩ : Cell) else none) = some c := f
    by_cases h : a.length + b.length ≤ sizeLine
    · rw [if_pos h] at f'
      cases f'
      refine .inr ⟨p1, p2, xs, ys, rfl, rfl, e1, e2, by rw [r1.1, r2.1]; exact h, fun p hp => q _ _ (.lst hp ⟨by rw [List.length_append, List.length_append, r1.1, r2.1], fun i d x h1 h2 => ?_⟩)⟩
      by_cases hi : i < a.length
      · rw [List.getElem?_append_left hi] at h1
        rw [List.getElem?_append_left (by rw [r1.1]; exact hi)] at h2
        exact r1.2 i d x h1 h2
      · rw [List.getElem?_append_right (by omega)] at h1
        rw [List.getElem?_append_right (by rw [r1.1]; omega), r1.1] at h2
        exact r2.2 _ d x h1 h2
    · rw [if_neg h] at f'
      cases f'
theorem pu_int {C : Int → Int → Prop} [∀ i j, Decidable (C i j)] {G : Int → Int → V} {F : D → D → Option Cell} {B : Int → Int → D} (hF : ∀ d e c, F d e = some c → ∃ i j, d = .int i ∧ e = .int j ∧ C i j ∧ c = ⟨false, B i j⟩) (hB : ∀ i j, flat (B i j) = true ∧ vOf (B i j) = G i j) : Pure2 g (rI C G) F := by
  intro ids H O d e v w c Q l1 l2 f q
  obtain ⟨i, j, rfl, rfl, hc, rfl⟩ := hF d e c f
  cases l1
  cases l2
  refine ⟨i, j, rfl, rfl, hc, ?_⟩
  rw [← (hB i j).2]
  exact q _ _ (.val (rep_flat (hB i j).1))
theorem pu_int0 {G : Int → Int → V} {F : D → D → Option Cell} {B : Int → Int → D} (hF : ∀ d e c, F d e = some c → ∃ i j, d = .int i ∧ e = .int j ∧ c = ⟨false, B i j⟩) (hB : ∀ i j, flat (B i j) = true ∧ vOf (B i j) = G i j) : Pure2 g (rI0 G) F := by
  intro ids H O d e v w c Q l1 l2 f q
  obtain ⟨i, j, rfl, rfl, rfl⟩ := hF d e c f
  cases l1
  cases l2
  refine ⟨i, j, rfl, rfl, ?_⟩
  rw [← (hB i j).2]
  exact q _ _ (.val (rep_flat (hB i j).1))
theorem pu_sub : Pure2 g (rI0 fun i j => .int (i - j)) dSub := pu_int0 (B := fun i j => .int (i - j)) (fun d e c h => by cases d <;> cases e <;> first | (cases h; done) | (cases h; exact ⟨_, _, rfl, rfl, rfl⟩)) fun _ _ => ⟨rfl, rfl⟩
theorem pu_lt : Pure2 g (rI0 fun i j => .bl (decide (i < j))) dLt := pu_int0 (B := fun i j => .bl (decide (i < j))) (fun d e c h => by cases d <;> cases e <;> first | (cases h; done) | (cases h; exact ⟨_, _, rfl, rfl, rfl⟩)) fun _ _ => ⟨rfl, rfl⟩
theorem pu_le : Pure2 g (rI0 fun i j => .bl (decide (i ≤ j))) dLe := pu_int0 (B := fun i j => .bl (decide (i ≤ j))) (fun d e c h => by cases d <;> cases e <;> first | (cases h; done) | (cases h; exact ⟨_, _, rfl, rfl, rfl⟩)) fun _ _ => ⟨rfl, rfl⟩
theorem pu_gt : Pure2 g (rI0 fun i j => .bl (decide (j < i))) dGt := pu_int0 (B := fun i j => .bl (decide (j < i))) (fun d e c h => by cases d <;> cases e <;> first | (cases h; done) | (cases h; exact ⟨_, _, rfl, rfl, rfl⟩)) fun _ _ => ⟨rfl, rfl⟩
theorem pu_ge : Pure2 g (rI0 fun i j => .bl (decide (j ≤ i))) dGe := pu_int0 (B := fun i j => .bl (decide (j ≤ i))) (fun d e c h => by cases d <;> cases e <;> first | (cases h; done) | (cases h; exact ⟨_, _, rfl, rfl, rfl⟩)) fun _ _ => ⟨rfl, rfl⟩
theorem pu_mod : Pure2 g (rI (fun _ j => 0 < j) fun i j => .int (i % j)) dMod := pu_int (B := fun i j => .int (i % j)) (fun d e c h => by
  cases d <;> cases e <;> try (cases h; done)
  rename_i a b
  have h' : (if 0 < b then cv (.int (a % b)) else none) = some c := h
  by_cases hb : 0 < b
  · rw [if_pos hb] at h'; cases h'; exact ⟨_, _, rfl, rfl, hb, rfl⟩
  · rw [if_neg hb] at h'; cases h') fun _ _ => ⟨rfl, rfl⟩
instance (i j : Int) : Decidable (CDivW i j) := inferInstanceAs (Decidable (_ ∧ _))
theorem pu_fdiv : Pure2 g (rI CDivW fun i j => .int (i / j)) dFdiv := pu_int (B := fun i j => .int (i / j)) (fun d e c h => by
  cases d <;> cases e <;> try (cases h; done)
  rename_i a b
  have h' : (if 0 < b ∧ b.natAbs.log2 < 9000 then cv (.int (a / b)) else none) = some c := h
  by_cases hb : 0 < b ∧ b.natAbs.log2 < 9000
  · rw [if_pos hb] at h'; cases h'; exact ⟨_, _, rfl, rfl, hb, rfl⟩
  · rw [if_neg hb] at h'; cases h') fun _ _ => ⟨rfl, rfl⟩
def CPowW (i j : Int) : Prop := 0 ≤ j ∧ (Builtin.Int.intBits i : Int) * j ≤ 2 ^ 27
instance (i j : Int) : Decidable (CPowW i j) := inferInstanceAs (Decidable (_ ∧ _))
theorem op_powW : OpR X (binaryOp .Pow) (rI CPowW fun i j => .int (i ^ j.toNat)) := opI fun _ _ _ _ _ _ _ hc q => pow_int hc.1 hc.2 q
theorem pu_pow : Pure2 g (rI CPowW fun i j => .int (i ^ j.toNat)) dPow := pu_int (B := fun i j => .int (i ^ j.toNat)) (fun d e c h => by
  cases d <;> cases e <;> try (cases h; done)
  rename_i a b
  have h' : (if 0 ≤ b ∧ (Builtin.Int.intBits a : Int) * b ≤ 2 ^ 27 then cv (.int (a ^ b.toNat)) else none) = some c := h
  by_cases hb : 0 ≤ b ∧ (Builtin.Int.intBits a : Int) * b ≤ 2 ^ 27
  · rw [if_pos hb] at h'; cases h'; exact ⟨_, _, rfl, rfl, hb, rfl⟩
  · rw [if_neg hb] at h'; cases h') fun _ _ => ⟨rfl, rfl⟩
def rMulD : R2 := fun x y H Q => rI CMulW (fun i j => .int (i * j)) x y H Q ∨ rRep x y H Q
theorem op_mulD : OpR X (binaryOp .Mult) rMulD := opR_or op_mulW op_rep
theorem flat_at {α β : Type} {R : α → β → Prop} {xs : List α} {ys : List β} (hl : ys.length = xs.length) (hr : ∀ (i : Nat) a b, xs[i]? = some a → ys[i]? = some b → R a b) : ∀ (n : Nat), ((List.replicate n ys).flatten).length = ((List.replicate n xs).flatten).length ∧ ∀ (i : Nat) a b, ((List.replicate n xs).flatten)[i]? = some a → ((List.replicate n ys).flatten)[i]? = some b → R a b
  | 0 => ⟨rfl, fun i a b h => by simp at h⟩
  | n + 1 => by
    obtain ⟨h1, h2⟩ := flat_at hl hr n
    rw [List.replicate_succ, List.replicate_succ, List.flatten_cons, List.flatten_cons]
    refine ⟨by rw [List.length_append, List.length_append, hl, h1], fun i a b e1 e2 => ?_⟩
    by_cases hi : i < xs.length
    · rw [List.getElem?_append_left hi] at e1
      rw [List.getElem?_append_left (by omega)] at e2
      exact hr i a b e1 e2
    · rw [List.getElem?_append_right (by omega)] at e1
      rw [List.getElem?_append_right (by omega), hl] at e2
      exact h2 _ a b e1 e2
theorem pu_mul : Pure2 g rMulD dMul := by
  intro ids H O d e v w c Q l1 l2 f q
  cases d <;> cases e <;> try (cases f; done)
  · rename_i a b
    cases l1
    cases l2
    have f' : (if a.natAbs.log2 + b.natAbs.log2 < 1000000 then cv (.int (a * b)) else none) = some c := f
    by_cases h : a.natAbs.log2 + b.natAbs.log2 < 1000000
    · rw [if_pos h] at f'
      cases f'
      exact .inl ⟨_, _, rfl, rfl, h, q _ _ (.val (.int _))⟩
    · rw [if_neg h] at f'
      cases f'
  · rename_i a b
    obtain ⟨p1, xs, rfl, e1, r1⟩ := l1
    cases l2
    have f' : (if -(2 ^ 63) ≤ b ∧ b < 2 ^ 63 ∧ a.length * b.toNat ≤ sizeLine then some (⟨true, .lst (List.replicate b.toNat a).flatten⟩ : Cell) else none) = some c := f
    by_cases h : -(2 ^ 63) ≤ b ∧ b < 2 ^ 63 ∧ a.length * b.toNat ≤ sizeLine
    · rw [if_pos h] at f'
      cases f'
      exact .inr ⟨p1, b, xs, rfl, rfl, e1, h.1, h.2.1, by rw [r1.1]; exact h.2.2, fun p hp => q _ _ (.lst hp (flat_at r1.1 r1.2 b.toNat))⟩
    · rw [if_neg h] at f'
      cases f'
theorem pu_eqP : Pure2 g (rEqD g.K) dEqP := by
  intro ids H O d e v w c Q l1 l2 f q
  unfold dEqP eqP at f
  split at f
  · rename_i p p' h1 h2
    split at f
    · rename_i h
      cases f
      exact ⟨p, p', l1.dp h1, l2.dp h2, h.1, h.2, q _ _ (.val (.bl _))⟩
    · cases f
  · cases f
theorem pu_neP : Pure2 g (rNeD g.K) dNeP := by
  intro ids H O d e v w c Q l1 l2 f q
  unfold dNeP eqP at f
  split at f
  · rename_i p p' h1 h2
    split at f
    · rename_i h
      cases f
      exact ⟨p, p', l1.dp h1, l2.dp h2, h.1, h.2, q _ _ (.val (.bl _))⟩
    · cases f
  · cases f
theorem look_non {ids : List Addr} {H : Hp} {O : Addr → Prop} {d : D} {v : V} (l : Look g ids H O d v) (h1 : d ≠ .non) (h2 : ∀ u, d ≠ .op u) : v ≠ .non := by
  cases d with
  | non => exact absurd rfl h1
  | op u => exact absurd rfl (h2 u)
  | bl b => cases l; exact (fun z => nomatch z)
  | int b => cases l; exact (fun z => nomatch z)
  | str b => cases l; exact (fun z => nomatch z)
  | cls C => obtain ⟨c, rfl, _⟩ := l; exact (fun z => nomatch z)
  | scr ns => obtain ⟨c, rfl, _⟩ := l; exact (fun z => nomatch z)
  | tup ds => obtain ⟨c, xs, rfl, _⟩ := l; exact (fun z => nomatch z)
  | lst ds => obtain ⟨c, xs, rfl, _⟩ := l; exact (fun z => nomatch z)
  | ins n C fs => obtain ⟨a, c, dx, vs, rfl, _⟩ := l; exact (fun z => nomatch z)
theorem pu_isN : Pure2 g (fun x y H Q => y = .non ∧ Q (.bl (decide (x = .non))) H) dIsN := by
  intro ids H O d e v w c Q l1 l2 f q
  cases e <;> try (cases d <;> cases f; done)
  cases l2
  refine ⟨rfl, ?_⟩
  by_cases hd : d = .non
  · subst hd
    cases l1
    cases f
    exact q _ _ (.val (.bl true))
  · have ho : ∀ u, d ≠ .op u := fun u z => by subst z; cases f
    rw [decide_eq_false (look_non l1 hd ho)]
    have hc : c = ⟨false, .bl false⟩ := by
      cases d <;> first | exact absurd rfl hd | exact absurd rfl (ho _) | (cases f; rfl)
    subst hc
    exact q _ _ (.val (.bl false))
theorem pu_isNotN : Pure2 g (fun x y H Q => y = .non ∧ Q (.bl (!decide (x = .non))) H) dIsNotN := by
  intro ids H O d e v w c Q l1 l2 f q
  cases e <;> try (cases d <;> cases f; done)
  cases l2
  refine ⟨rfl, ?_⟩
  by_cases hd : d = .non
  · subst hd
    cases l1
    cases f
    exact q _ _ (.val (.bl false))
  · have ho : ∀ u, d ≠ .op u := fun u z => by subst z; cases f
    rw [decide_eq_false (look_non l1 hd ho)]
    have hc : c = ⟨false, .bl true⟩ := by
      cases d <;> first | exact absurd rfl hd | exact absurd rfl (ho _) | (cases f; rfl)
    subst hc
    exact q _ _ (.val (.bl true))
theorem sign1_eq {x : Str} {c : Nat} (h : sign1 x = some c) : x = ⟨#[c]⟩ := by
  obtain ⟨l⟩ := x
  obtain ⟨l⟩ := l
  match l, h with
  | [c'], h =>
    have e : c' = c := Option.some.inj h
    rw [e]
def rInDD (K : PySem.W.Frag) : R2 := fun x y H Q => (∃ (c : Nat) (z : Str), x = .str ⟨#[c]⟩ ∧ y = .str z ∧ Q (.bl (decide (c ∈ z.cps.toList))) H) ∨ rInD K x y H Q
theorem op_inDD (hu : X.A.units + 65 < cLine) : OpR X (compareOp .In) (rInDD X.K) := opR_or op_in_sign (op_inD hu)
def rNotInDD (K : PySem.W.Frag) : R2 := fun x y H Q => (∃ (c : Nat) (z : Str), x = .str ⟨#[c]⟩ ∧ y = .str z ∧ Q (.bl (!decide (c ∈ z.cps.toList))) H) ∨ rNotInD K x y H Q
theorem op_notIn_sign : OpR X (compareOp .NotIn) (fun x y H Q => ∃ (c : Nat) (z : Str), x = .str ⟨#[c]⟩ ∧ y = .str z ∧ Q (.bl (!decide (c ∈ z.cps.toList))) H) := by
  intro pins s σ H x y v u Q I rx ry h
  obtain ⟨c, z, rfl, rfl, q⟩ := h
  refine op_notin_str pins s σ H _ _ v u Q I rx ry ⟨_, _, rfl, rfl, ?_⟩
  rw [PySem.StrLaws.found_one z c]
  exact q
theorem op_notInDD (hu : X.A.units + 65 < cLine) : OpR X (compareOp .NotIn) (rNotInDD X.K) := opR_or op_notIn_sign (op_notInD hu)
theorem inB_cases {d e : D} {b : Bool} (h : dInB d e = some b) : (∃ c z, d = .str ⟨#[c]⟩ ∧ e = .str z ∧ b = decide (c ∈ z.cps.toList)) ∨ ∃ ds p ps, e = .lst ds ∧ py d = some p ∧ pyL ds = some ps ∧ SeqAt.shaped p = true ∧ SeqAt.shaped (.list ps) = true ∧ b = ps.any fun z => PyData.eqv z p := by
  cases e with
  | str y =>
    cases d <;> try (cases h; done)
    rename_i x
    have h' : (sign1 x).map (fun c => decide (c ∈ y.cps.toList)) = some b := h
    cases e1 : sign1 x with
    | none => rw [e1] at h'; cases h'
    | some c =>
      rw [e1] at h'
      cases h'
      exact .inl ⟨c, y, by rw [sign1_eq e1], rfl, rfl⟩
  | lst ds =>
    have h' : (match py d, pyL ds with
      | some p, some ps => if SeqAt.shaped p = true ∧ SeqAt.shaped (.list ps) = true then some (ps.any fun z => PyData.eqv z p) else none
      | _, _ => none) = some b := by cases d <;> exact h
    split at h'
    · rename_i p ps h1 h2
      split at h'
      · rename_i hs
        cases h'
        exact .inr ⟨ds, p, ps, rfl, h1, h2, hs.1, hs.2, rfl⟩
      · cases h'
    · cases h'
  | _ => cases d <;> cases h
theorem py_lst {ds : List D} {ps : List PyData} (h : pyL ds = some ps) : py (.lst ds) = some (.list ps) := by
  rw [py, h]
  rfl
theorem pu_in : Pure2 g (rInDD g.K) dIn := by
  intro ids H O d e v w c Q l1 l2 f q
  unfold dIn at f
  cases hb : dInB d e with
  | none => rw [hb] at f; cases f
  | some b =>
    rw [hb] at f
    cases f
    rcases inB_cases hb with ⟨c, z, rfl, rfl, rfl⟩ | ⟨ds, p, ps, rfl, h1, h2, h3, h4, rfl⟩
    · cases l1
      cases l2
      exact .inl ⟨c, z, rfl, rfl, q _ _ (.val (.bl _))⟩
    · exact .inr ⟨p, ps, l1.dp h1, l2.dp (py_lst h2), h3, h4, q _ _ (.val (.bl _))⟩
theorem pu_notIn : Pure2 g (rNotInDD g.K) dNotIn := by
  intro ids H O d e v w c Q l1 l2 f q
  unfold dNotIn at f
  cases hb : dInB d e with
  | none => rw [hb] at f; cases f
  | some b =>
    rw [hb] at f
    cases f
    rcases inB_cases hb with ⟨c, z, rfl, rfl, rfl⟩ | ⟨ds, p, ps, rfl, h1, h2, h3, h4, rfl⟩
    · cases l1
      cases l2
      exact .inl ⟨c, z, rfl, rfl, q _ _ (.val (.bl _))⟩
    · exact .inr ⟨p, ps, l1.dp h1, l2.dp (py_lst h2), h3, h4, q _ _ (.val (.bl _))⟩
theorem pu_neg : Pure1 g (rU fun i => .int (-i)) dNeg := by
  intro ids H O d v c Q l f q
  cases d <;> try (cases f; done)
  cases l
  cases f
  exact ⟨_, rfl, q _ _ (.val (.int _))⟩
/-! an item -/
theorem atI_rel {α β : Type} {xs : List α} {ys : List β} {i : Int} {a : α} (hl : ys.length = xs.length) (h : atI xs i = some a) : ∃ (b : β) (j : Nat), atI ys i = some b ∧ xs[j]? = some a ∧ ys[j]? = some b := by
  unfold atI at h ⊢
  rw [hl]
  cases e : ixN xs.length i with
  | none => rw [e] at h; cases h
  | some j =>
    rw [e] at h
    have hj : j < xs.length := (List.getElem?_eq_some_iff.mp h).1
    have hy : ys[j]? = some (ys[j]'(by omega)) := List.getElem?_eq_getElem _
    exact ⟨_, j, hy, h, hy⟩
theorem pu_ix : Pure2 g (rIx g.K) dIx := by
  intro ids H O d e v w c Q l1 l2 f q
  cases d <;> cases e <;> try (cases f; done)
  · rename_i x i
    cases l1
    cases l2
    have f' : (if x.length ≤ sizeLine then (atI x.cps.toList i).map fun c => (⟨false, .str ⟨#[c]⟩⟩ : Cell) else none) = some c := f
    by_cases h : x.length ≤ sizeLine
    · rw [if_pos h] at f'
      cases e1 : atI x.cps.toList i with
      | none => rw [e1] at f'; cases f'
      | some a =>
        rw [e1] at f'
        cases f'
        exact .inr (.inr ⟨_, _, a, rfl, rfl, h, e1, q _ _ (.val (.str _))⟩)
    · rw [if_neg h] at f'
      cases f'
  · rename_i ds i
    obtain ⟨p1, xs, rfl, e1, r1⟩ := l1
    cases l2
    have f' : (atI ds i).map (fun d => (⟨false, d⟩ : Cell)) = some c := f
    cases e2 : atI ds i with
    | none => rw [e2] at f'; cases f'
    | some d =>
      rw [e2] at f'
      cases f'
      obtain ⟨x, j, h1, h2, h3⟩ := atI_rel r1.1 e2
      exact .inr (.inl ⟨p1, xs, i, x, rfl, rfl, .of e1, h1, q _ _ (.val (r1.2 j d x h2 h3))⟩)
  · rename_i ds i
    obtain ⟨p1, xs, rfl, e1, r1⟩ := l1
    cases l2
    have f' : (atI ds i).map (fun d => (⟨false, d⟩ : Cell)) = some c := f
    cases e2 : atI ds i with
    | none => rw [e2] at f'; cases f'
    | some d =>
      rw [e2] at f'
      cases f'
      obtain ⟨x, j, h1, h2, h3⟩ := atI_rel r1.1 e2
      exact .inl ⟨p1, xs, i, x, rfl, rfl, .of e1, h1, q _ _ (.val (r1.2 j d x h2 h3))⟩
  · rename_i ns i
    obtain ⟨p1, rfl, e1⟩ := l1
    cases l2
    have f' : (atI ns i).map (fun n => (⟨false, .int n⟩ : Cell)) = some c := f
    cases e2 : atI ns i with
    | none => rw [e2] at f'; cases f'
    | some n =>
      rw [e2] at f'
      cases f'
      obtain ⟨x, j, h1, h2, h3⟩ := atI_rel (ys := ns.map V.int) (by simp) e2
      rw [List.getElem?_map, h2] at h3
      have h4 : V.int n = x := Option.some.inj h3
      subst h4
      exact .inl ⟨p1, _, i, _, rfl, rfl, e1, h1, q _ _ (.val (.int _))⟩
end
end Ov


set_option Elab.async false
set_option linter.all false
set_option maxRecDepth 100000
set_option maxHeartbeats 4000000
namespace Ov
open PySem PySem.Spec PyProof.Rows L2

/-! ### slices -/
/-- the parts of a slice: a number, or none -/
def mPart (m : M Opn) : M (Option Int) := M.bind m fun o S => match curD S o with
  | some (.int i) => .ok (some i) S
  | _ => .stuck
def mNoPart : M (Option Int) := M.ret none
def cutD {α : Type} (xs : List α) (lo hi : Option Int) : List α := (xs.drop (HT.sIx xs.length 0 lo)).take (HT.sIx xs.length xs.length hi - HT.sIx xs.length 0 lo)
def dSl : D → Option Int → Option Int → Option Cell
  | .lst ds, lo, hi => some ⟨true, .lst (cutD ds lo hi)⟩
  | .str z, lo, hi => if z.length ≤ sizeLine then cv (.str (Txt.slice z lo hi)) else none
  | _, _, _ => none
def mSl (m : M Opn) (l h : M (Option Int)) : M Opn := M.bind m fun o => M.bind l fun lo => M.bind h fun hi => pure1 (fun d => dSl d lo hi) o
section
variable {X : Cx} {g : Gh} {W : WX} {a b c e : Expr} {ma mb mc m : M Opn} {pos : Pos} {es : List Expr} {ms : M (List Opn)}
def tDo (g : Gh) (W : WX) (m : M (Option Int)) : TO := fun σ H Q => ∃ ids S Z, Rel g ids S σ H Z ∧ match m S with
  | .ok o S' => ∀ H' ids', Aft g ids S σ H Z [] [] ids' S' H' → Q o H'
  | .exc x S' => ∀ cls d H' ids', AftX g ids S σ H Z x cls d ids' S' H' → W cls d σ H'
  | .stuck => False
def DO (X : Cx) (g : Gh) (W : WX) (e : Option Expr) (m : M (Option Int)) : Prop := PO X e (tDo g W m)
theorem po_imp {e : Option Expr} {t t' : TO} (h : PO X e t) (i : ∀ σ H Q, t' σ H Q → t σ H Q) : PO X e t' := ⟨fun pins s σ H Q I q => h.run pins s σ H Q I (i σ H Q q)⟩
theorem do_none : DO X g W none mNoPart := by
  refine po_imp po_none fun σ H Q q => ?_
  obtain ⟨ids, S, Z, r, q⟩ := q
  exact q H ids (Aft.nil r)
theorem do_some (h : DE X g W e m) : DO X g W (some e) (mPart m) := by
  refine po_imp (po_some h) fun σ H Q q => ?_
  obtain ⟨ids, S, Z, r, q⟩ := q
  refine tD_wp.mpr ⟨ids, S, Z, r, ?_⟩
  unfold mPart M.bind at q
  cases e1 : m S with
  | stuck => rw [e1] at q; exact q
  | exc x S1 => rw [e1] at q; exact q
  | ok o S1 =>
    rw [e1] at q
    dsimp only at q
    intro v H1 ids1 A
    cases e2 : curD S1 o with
    | none => rw [e2] at q; exact q.elim
    | some d =>
      rw [e2] at q
      have l := A.look (i := 0) rfl rfl e2
      cases d with
      | int i =>
        cases l
        exact ⟨i, rfl, q H1 ids1 A.drop⟩
      | _ => exact q.elim
/-- a part behind others -/
theorem tDo_step {ids ids1 : List Addr} {S S1 : Sta} {σ : L2.St} {H H1 : Hp} {Z : Addr → Prop} {os : List Opn} {vs : List V} {mp : M (Option Int)} {f : Option Int → M Opn} {R : Option Int → Hp → Prop} {Q : VK} (A : Aft g ids S σ H Z os vs ids1 S1 H1)
    (h : Wp g W ids S σ H Z Q (M.bind mp f S1)) (k : ∀ o S2 H2 ids2, Aft g ids S σ H Z os vs ids2 S2 H2 → Wp g W ids S σ H Z Q (f o S2) → R o H2) : tDo g W mp σ H1 R := by
  refine ⟨ids1, S1, _, A.rel, ?_⟩
  unfold M.bind at h
  cases e : mp S1 with
  | ok o S2 =>
    rw [e] at h
    intro H2 ids2 B
    have C := A.append B
    rw [List.append_nil, List.append_nil] at C
    exact k o S2 H2 ids2 C h
  | exc x S2 =>
    rw [e] at h
    exact fun cls d H2 ids2 B => h cls d H2 ids2 (AftX.behind A B)
  | stuck =>
    rw [e] at h
    exact h
def rSlD (K : PySem.W.Frag) : V → Option Int → Option Int → Hp → VK → Prop := fun x lo hi H Q => rSlL K x lo hi H Q ∨ C8.rSlX x lo hi H Q
theorem cut_rel {ids : List Addr} {H : Hp} {O : Addr → Prop} {ds : List D} {xs : List V} (r : RepL g ids H O ds xs) (lo hi : Option Int) : RepL g ids H O (cutD ds lo hi) (cutV xs lo hi) := by
  unfold cutD cutV
  rw [r.1]
  refine ⟨by rw [List.length_take, List.length_take, List.length_drop, List.length_drop, r.1], fun i d x h1 h2 => ?_⟩
  rw [List.getElem?_take] at h1 h2
  split at h1
  · rename_i hl
    rw [if_pos hl] at h2
    rw [List.getElem?_drop] at h1 h2
    exact r.2 _ d x h1 h2
  · cases h1
theorem pu_sl (lo hi : Option Int) : Pure1 g (fun x H Q => rSlD g.K x lo hi H Q) (fun d => dSl d lo hi) := by
  intro ids H O d v c Q l f q
  cases d <;> try (cases f; done)
  · rename_i z
    cases l
    have f' : (if z.length ≤ sizeLine then cv (.str (Txt.slice z lo hi)) else none) = some c := f
    by_cases h : z.length ≤ sizeLine
    · rw [if_pos h] at f'
      cases f'
      exact .inr ⟨z, rfl, h, q _ _ (.val (.str _))⟩
    · rw [if_neg h] at f'
      cases f'
  · obtain ⟨p1, xs, rfl, e1, r1⟩ := l
    cases f
    exact .inl ⟨p1, xs, rfl, .of e1, fun p hp => q _ _ (.lst hp (cut_rel r1 lo hi))⟩
theorem de_slice {lo hi : Option Expr} {ml mh : M (Option Int)} {p2 : Pos} (B : g.K = X.K) (he : DE X g W e m) (hl : DO X g W lo ml) (hu : DO X g W hi mh) : DE X g W (.Subscript e (.Slice lo hi none p2) pos) (mSl m ml mh) := by
  refine pe_imp (pe_slice (sl_list.or C8.sl_txt) he hl hu) fun σ H Q q => ?_
  obtain ⟨ids, S, Z, r, q⟩ := tD_wp.mp q
  refine tD_first r q fun o v S1 H1 ids1 A q1 => ?_
  refine tDo_step A q1 fun l S2 H2 ids2 A2 q2 => ?_
  refine tDo_step A2 q2 fun u S3 H3 ids3 A3 q3 => ?_
  have z := wp_pure1 (pu_sl l u) A3 q3
  rw [B] at z
  exact z

/-! ### built-ins -/
def dLenN : D → Option Nat
  | .lst ds => some ds.length
  | .tup ds => some ds.length
  | .str x => if x.length ≤ sizeLine then some x.length else none
  | .scr ns => some ns.length
  | _ => none
def one (F : D → Option Cell) : List D → Option Cell
  | [d] => F d
  | _ => none
def two (F : D → D → Option Cell) : List D → Option Cell
  | [d, e] => F d e
  | _ => none
theorem one_inv {F : D → Option Cell} {ds : List D} {c : Cell} (h : one F ds = some c) : ∃ d, ds = [d] ∧ F d = some c := by
  match ds, h with
  | [d], h => exact ⟨d, rfl, h⟩
theorem two_inv {F : D → D → Option Cell} {ds : List D} {c : Cell} (h : two F ds = some c) : ∃ d e, ds = [d, e] ∧ F d e = some c := by
  match ds, h with
  | [d, e], h => exact ⟨d, e, rfl, h⟩
def dLen (d : D) : Option Cell := (dLenN d).map fun n => ⟨false, .int n⟩
theorem pn_len : PureN g (fun xs H Q => ∃ x n, xs = [x] ∧ LenV g.K x H n ∧ Q (.int n) H) (one dLen) := by
  intro ids H O ds vs c Q l f q
  obtain ⟨d, rfl, f⟩ := one_inv f
  obtain ⟨v, rfl, l'⟩ := looks_one l
  clear l
  · have l := l'
    clear l'
    have f' : (dLenN d).map (fun n => (⟨false, .int n⟩ : Cell)) = some c := f
    cases e : dLenN d with
    | none => rw [e] at f'; cases f'
    | some n =>
      rw [e] at f'
      cases f'
      refine ⟨v, n, rfl, ?_, q _ _ (.val (.int _))⟩
      cases d with
      | str x =>
        cases l
        have e' : (if x.length ≤ sizeLine then some x.length else none) = some n := e
        by_cases h : x.length ≤ sizeLine
        · rw [if_pos h] at e'
          cases e'
          exact ⟨h, rfl⟩
        · rw [if_neg h] at e'
          cases e'
      | tup ds =>
        obtain ⟨p1, xs, rfl, e1, r1⟩ := l
        cases e
        exact Or.inr ⟨xs, .of e1, r1.1.symm⟩
      | lst ds =>
        obtain ⟨p1, xs, rfl, e1, r1⟩ := l
        cases e
        exact Or.inl ⟨xs, .of e1, r1.1.symm⟩
      | scr ns =>
        obtain ⟨p1, rfl, e1⟩ := l
        cases e
        exact Or.inl ⟨_, e1, by simp⟩
      | _ => cases e
def dAbs : D → Option Cell
  | .int i => cv (.int (if i < 0 then -i else i))
  | _ => none
theorem pn_abs : PureN g (fun xs H Q => ∃ i, xs = [.int i] ∧ Q (.int (if i < 0 then -i else i)) H) (one dAbs) := by
  intro ids H O ds vs c Q l f q
  obtain ⟨d, rfl, f⟩ := one_inv f
  obtain ⟨v, rfl, l'⟩ := looks_one l
  clear l
  · have l := l'
    clear l'
    cases d with
    | int i =>
      cases l
      cases f
      exact ⟨i, rfl, q _ _ (.val (.int _))⟩
    | _ => cases f
def dMax : D → D → Option Cell
  | .int i, .int j => cv (.int (if j > i then j else i))
  | _, _ => none
def dMin : D → D → Option Cell
  | .int i, .int j => cv (.int (if j < i then j else i))
  | _, _ => none
theorem pn_max : PureN g (fun xs H Q => ∃ i j, xs = [.int i, .int j] ∧ Q (.int (if j > i then j else i)) H) (two dMax) := by
  intro ids H O ds vs c Q l f q
  obtain ⟨d, e, rfl, f⟩ := two_inv f
  obtain ⟨v, w, rfl, l1, l2⟩ := looks_two l
  cases d <;> try (cases f; done)
  cases e <;> try (cases f; done)
  cases l1
  cases l2
  cases f
  exact ⟨_, _, rfl, q _ _ (.val (.int _))⟩
theorem pn_min : PureN g (fun xs H Q => ∃ i j, xs = [.int i, .int j] ∧ Q (.int (if j < i then j else i)) H) (two dMin) := by
  intro ids H O ds vs c Q l f q
  obtain ⟨d, e, rfl, f⟩ := two_inv f
  obtain ⟨v, w, rfl, l1, l2⟩ := looks_two l
  cases d <;> try (cases f; done)
  cases e <;> try (cases f; done)
  cases l1
  cases l2
  cases f
  exact ⟨_, _, rfl, q _ _ (.val (.int _))⟩
def dInt : D → Option Cell
  | .int i => cv (.int i)
  | .bl b => cv (.int (if b then 1 else 0))
  | _ => none
theorem pn_int : PureN g (fun xs H Q => (∃ i, xs = [.int i] ∧ Q (.int i) H) ∨ ∃ k, xs = [.bl k] ∧ Q (.int (if k then 1 else 0)) H) (one dInt) := by
  intro ids H O ds vs c Q l f q
  obtain ⟨d, rfl, f⟩ := one_inv f
  obtain ⟨v, rfl, l'⟩ := looks_one l
  clear l
  · have l := l'
    clear l'
    cases d <;> try (cases f; done)
    · cases l
      cases f
      exact .inr ⟨_, rfl, q _ _ (.val (.int _))⟩
    · cases l
      cases f
      exact .inl ⟨_, rfl, q _ _ (.val (.int _))⟩
def dList : D → Option Cell
  | .lst ds => some ⟨true, .lst ds⟩
  | .tup ds => some ⟨true, .lst ds⟩
  | _ => none
theorem pn_list : PureN g (fun xs H Q => ∃ p ys, xs = [.ref p] ∧ (SqL g.K H p ys ∨ SqT g.K H p ys) ∧ ∀ l, H l = none → Q (.ref l) (upd H l (.lst ys))) (one dList) := by
  intro ids H O ds vs c Q l f q
  obtain ⟨d, rfl, f⟩ := one_inv f
  obtain ⟨v, rfl, l'⟩ := looks_one l
  clear l
  · have l := l'
    clear l'
    cases d <;> try (cases f; done)
    · obtain ⟨p1, xs, rfl, e1, r1⟩ := l
      cases f
      exact ⟨p1, xs, rfl, .inr (.of e1), fun p hp => q _ _ (.lst hp r1)⟩
    · obtain ⟨p1, xs, rfl, e1, r1⟩ := l
      cases f
      exact ⟨p1, xs, rfl, .inl (.of e1), fun p hp => q _ _ (.lst hp r1)⟩
/-- the bools of a list -/
def bools : List D → Option (List Bool)
  | [] => some []
  | .bl b :: ds => (bools ds).map (b :: ·)
  | _ :: _ => none
def dAll : D → Option Cell
  | .lst ds => (bools ds).map fun bs => ⟨false, .bl (bs.all id)⟩
  | _ => none
def dAny : D → Option Cell
  | .lst ds => (bools ds).map fun bs => ⟨false, .bl (bs.any id)⟩
  | _ => none
theorem bools_map : ∀ {ds : List D} {bs : List Bool}, bools ds = some bs → ds = bs.map .bl
  | [], bs, h => by cases (show some [] = some bs from h); rfl
  | .bl b :: ds, bs, h => by
    have h' : (bools ds).map (b :: ·) = some bs := h
    cases e : bools ds with
    | none => rw [e] at h'; cases h'
    | some cs =>
      rw [e] at h'
      cases h'
      rw [bools_map e]
      rfl
theorem repL_map {α : Type} {ids : List Addr} {H : Hp} {O : Addr → Prop} {f : α → D} (hf : ∀ x, flat (f x) = true) {bs : List α} {xs : List V} (r : RepL g ids H O (bs.map f) xs) : xs = bs.map fun x => vOf (f x) := by
  apply List.ext_getElem?
  intro i
  have hl : xs.length = bs.length := by rw [r.1, List.length_map]
  cases hx : xs[i]? with
  | none =>
    have := List.getElem?_eq_none_iff.mp hx
    rw [List.getElem?_map, List.getElem?_eq_none (by omega)]
    rfl
  | some x =>
    obtain ⟨hi, _⟩ := List.getElem?_eq_some_iff.mp hx
    have h1 : (bs.map f)[i]? = some (f (bs[i]'(by omega))) := by rw [List.getElem?_map, List.getElem?_eq_getElem (by omega)]; rfl
    have q := r.2 i _ _ h1 hx
    rw [List.getElem?_map, List.getElem?_eq_getElem (by omega)]
    refine congrArg some ?_
    show x = vOf (f (bs[i]'(by omega)))
    have hfl := hf (bs[i]'(by omega))
    generalize f (bs[i]'(by omega)) = d at q hfl
    cases q <;> first | rfl | cases hfl
theorem pn_all : PureN g (rAll g.K) (one dAll) := by
  intro ids H O ds vs c Q l f q
  obtain ⟨d, rfl, f⟩ := one_inv f
  obtain ⟨v, rfl, l'⟩ := looks_one l
  clear l
  · have l := l'
    clear l'
    cases d with
    | lst ds =>
      obtain ⟨p1, xs, rfl, e1, r1⟩ := l
      have f' : (bools ds).map (fun bs => (⟨false, .bl (bs.all id)⟩ : Cell)) = some c := f
      cases e : bools ds with
      | none => rw [e] at f'; cases f'
      | some bs =>
        rw [e] at f'
        cases f'
        rw [bools_map e] at r1
        have ex := repL_map (f := D.bl) (fun _ => rfl) r1
        subst ex
        exact ⟨p1, bs, rfl, .of e1, q _ _ (.val (.bl _))⟩
    | _ => cases f
theorem pn_any : PureN g (rAny g.K) (one dAny) := by
  intro ids H O ds vs c Q l f q
  obtain ⟨d, rfl, f⟩ := one_inv f
  obtain ⟨v, rfl, l'⟩ := looks_one l
  clear l
  · have l := l'
    clear l'
    cases d with
    | lst ds =>
      obtain ⟨p1, xs, rfl, e1, r1⟩ := l
      have f' : (bools ds).map (fun bs => (⟨false, .bl (bs.any id)⟩ : Cell)) = some c := f
      cases e : bools ds with
      | none => rw [e] at f'; cases f'
      | some bs =>
        rw [e] at f'
        cases f'
        rw [bools_map e] at r1
        have ex := repL_map (f := D.bl) (fun _ => rfl) r1
        subst ex
        exact ⟨p1, bs, rfl, .of e1, q _ _ (.val (.bl _))⟩
    | _ => cases f
def dStrI : D → Option Cell
  | .int i => if i.natAbs.log2 < 1920 then cv (.str (toString i)) else none
  | _ => none
theorem pn_strI : PureN g (fun xs H Q => ∃ i, xs = [.int i] ∧ i.natAbs.log2 < 1920 ∧ Q (.str (toString i)) H) (one dStrI) := by
  intro ids H O ds vs c Q l f q
  obtain ⟨d, rfl, f⟩ := one_inv f
  obtain ⟨v, rfl, l'⟩ := looks_one l
  clear l
  · have l := l'
    clear l'
    cases d with
    | int i =>
      cases l
      have f' : (if i.natAbs.log2 < 1920 then cv (.str (toString i)) else none) = some c := f
      by_cases h : i.natAbs.log2 < 1920
      · rw [if_pos h] at f'
        cases f'
        exact ⟨i, rfl, h, q _ _ (.val (.str _))⟩
      · rw [if_neg h] at f'
        cases f'
    | _ => cases f

/-! ### methods of texts -/
def mM1 (F : Str → D → Option Cell) (mo me : M Opn) : M Opn := M.bind mo fun o S => match curD S o with
  | some (.str x) => M.bind me (pure1 (F x)) S
  | _ => .stuck
def mM0 (F : Str → Option Cell) (mo : M Opn) : M Opn := M.bind mo fun o S => match curD S o with
  | some (.str x) => (match F x with
    | some c => .ok (.v c) S
    | none => .stuck)
  | _ => .stuck
def PureM1 (g : Gh) (r : V → List V → Hp → VK → Prop) (F : Str → D → Option Cell) : Prop :=
  ∀ ids H O x e w c Q, Look g ids H O e w → F x e = some c → (∀ v' H', Made g ids H O c v' H' → Q v' H') → r (.str x) [w] H Q
def PureM0 (g : Gh) (r : V → List V → Hp → VK → Prop) (F : Str → Option Cell) : Prop :=
  ∀ ids H O x c Q, F x = some c → (∀ v' H', Made g ids H O c v' H' → Q v' H') → r (.str x) [] H Q
/-- o.m(e), o a text -/
theorem de_m1 {id : String} {name : Str} {apos : Pos} {o : Expr} {mo me : M Opn} {r : V → List V → Hp → VK → Prop} {F : Str → D → Option Cell} (slot : Slot "str" name id) (ty : typeOf (.builtin id) = pure (.type "method_descriptor")) (rule : MtR X id r) (hp : PureM1 g r F)
    (ho : DE X g W o mo) (he : DE X g W e me) (hs : starEach [e] X.env = [(false, eval e X.env)]) (hbase : attributeBase o name X.env (eval o X.env) = eval o X.env) (hline : (apos.endLine == pos.line) = true) :
    DE X g W (.Call (.Attribute o name apos) [e] [] pos) (mM1 F mo me) := by
  refine pe_imp (pe_m1 slot ty rule ho he hs hbase hline) fun σ H Q q => ?_
  obtain ⟨ids, S, Z, rl, q⟩ := tD_wp.mp q
  refine tD_first rl q fun o1 v S1 H1 ids1 A q1 => ?_
  cases e1 : curD S1 o1 with
  | none => rw [e1] at q1; exact q1.elim
  | some d =>
    rw [e1] at q1
    have l := A.look (i := 0) rfl rfl e1
    cases d with
    | str x =>
      cases l
      refine ⟨⟨x, rfl⟩, ?_⟩
      refine tD_step A q1 fun o2 w S2 H2 ids2 A2 q2 => ?_
      unfold pure1 at q2
      cases e2 : curD S2 o2 with
      | none => rw [e2] at q2; exact q2.elim
      | some d2 =>
        rw [e2] at q2
        simp only [Option.bind_some] at q2
        cases e3 : F x d2 with
        | none => rw [e3] at q2; exact q2.elim
        | some c =>
          rw [e3] at q2
          exact hp ids2 H2 _ x d2 w c Q (A2.look (i := 1) rfl rfl e2) e3 fun v' H' m => q2 v' H' ids2 (A2.made m)
    | _ => exact q1.elim
theorem de_m0 {id : String} {name : Str} {apos : Pos} {o : Expr} {mo : M Opn} {r : V → List V → Hp → VK → Prop} {F : Str → Option Cell} (slot : Slot "str" name id) (ty : typeOf (.builtin id) = pure (.type "method_descriptor")) (rule : MtR X id r) (hp : PureM0 g r F)
    (ho : DE X g W o mo) (hbase : attributeBase o name X.env (eval o X.env) = eval o X.env) (hline : (apos.endLine == pos.line) = true) :
    DE X g W (.Call (.Attribute o name apos) [] [] pos) (mM0 F mo) := by
  refine pe_imp (pe_m0 slot ty rule ho hbase hline) fun σ H Q q => ?_
  obtain ⟨ids, S, Z, rl, q⟩ := tD_wp.mp q
  refine tD_first rl q fun o1 v S1 H1 ids1 A q1 => ?_
  cases e1 : curD S1 o1 with
  | none => rw [e1] at q1; exact q1.elim
  | some d =>
    rw [e1] at q1
    have l := A.look (i := 0) rfl rfl e1
    cases d with
    | str x =>
      cases l
      refine ⟨⟨x, rfl⟩, ?_⟩
      dsimp only at q1
      cases e3 : F x with
      | none => rw [e3] at q1; exact q1.elim
      | some c =>
        rw [e3] at q1
        exact hp ids1 H1 _ x c Q e3 fun v' H' m => q1 v' H' ids1 (A.made m)
    | _ => exact q1.elim

/-- the texts of a list -/
def txts : List D → Option (List Str)
  | [] => some []
  | .str x :: ds => (txts ds).map (x :: ·)
  | _ :: _ => none
theorem txts_map : ∀ {ds : List D} {xs : List Str}, txts ds = some xs → ds = xs.map .str
  | [], xs, h => by cases (show some [] = some xs from h); rfl
  | .str x :: ds, xs, h => by
    have h' : (txts ds).map (x :: ·) = some xs := h
    cases e : txts ds with
    | none => rw [e] at h'; cases h'
    | some cs =>
      rw [e] at h'
      cases h'
      rw [txts_map e]
      rfl
theorem txts_of (xs : List Str) : txts (xs.map .str) = some xs := by
  induction xs with
  | nil => rfl
  | cons x xs ih =>
    show (txts (xs.map .str)).map (x :: ·) = some (x :: xs)
    rw [ih]
    rfl
theorem repL_str {ids : List Addr} {H : Hp} {O : Addr → Prop} (ys : List Str) : RepL g ids H O (ys.map D.str) (ys.map V.str) := by
  refine ⟨by rw [List.length_map, List.length_map], fun i d x h1 h2 => ?_⟩
  rw [List.getElem?_map] at h1 h2
  cases e : ys[i]? with
  | none => rw [e] at h1; cases h1
  | some y =>
    rw [e] at h1 h2
    cases h1
    cases h2
    exact .str y
def dJoinL (a : Str) (ds : List D) : Option Cell := (txts ds).bind fun ys =>
  if (ys.map (·.length)).sum + ys.length * a.length ≤ 16777216 then cv (.str (Txt.join a ys)) else none
def dJoin (a : Str) : D → Option Cell
  | .lst ds => dJoinL a ds
  | .tup ds => dJoinL a ds
  | _ => none
theorem pm_join : PureM1 g (fun x xs H Q => ∃ a p, ∃ ys : List Str, x = .str a ∧ xs = [.ref p] ∧ (SqL g.K H p (ys.map V.str) ∨ SqT g.K H p (ys.map V.str)) ∧
    (ys.map (·.length)).sum + ys.length * a.length ≤ 16777216 ∧ Q (.str (Txt.join a ys)) H) dJoin := by
  intro ids H O a e w c Q l f q
  have key : ∀ {ds : List D} {p : Addr} {xs : List V}, dJoinL a ds = some c → RepL g ids H O ds xs → (SqL g.K H p xs ∨ SqT g.K H p xs) → ∃ a' p', ∃ ys : List Str, V.str a = .str a' ∧ [V.ref p] = [.ref p'] ∧ (SqL g.K H p' (ys.map V.str) ∨ SqT g.K H p' (ys.map V.str)) ∧
    (ys.map (·.length)).sum + ys.length * a'.length ≤ 16777216 ∧ Q (.str (Txt.join a' ys)) H := fun {ds p xs} f r h => by
    unfold dJoinL at f
    cases e1 : txts ds with
    | none => rw [e1] at f; cases f
    | some ys =>
      rw [e1] at f
      simp only [Option.bind_some] at f
      rw [txts_map e1] at r
      have ex := repL_map (f := D.str) (fun _ => rfl) r
      subst ex
      split at f
      · cases f
        rename_i hz
        exact ⟨a, p, ys, rfl, rfl, h, hz, q _ _ (.val (.str _))⟩
      · cases f
  cases e <;> try (cases f; done)
  · obtain ⟨p1, xs, rfl, e1, r1⟩ := l
    exact key f r1 (.inr (.of e1))
  · obtain ⟨p1, xs, rfl, e1, r1⟩ := l
    exact key f r1 (.inl (.of e1))
def dSplit (a : Str) : D → Option Cell
  | .str b => if (b.length == 0) = false ∧ a.length + 2 ≤ sizeLine then some ⟨true, .lst ((Txt.split a b).map .str)⟩ else none
  | _ => none
theorem pm_split : PureM1 g (fun x xs H Q => ∃ a b, x = .str a ∧ xs = [.str b] ∧ (b.length == 0) = false ∧ a.length + 2 ≤ sizeLine ∧ rNewStrs (Txt.split a b) H Q) dSplit := by
  intro ids H O a e w c Q l f q
  cases e with
  | str b =>
    cases l
    have f' : (if (b.length == 0) = false ∧ a.length + 2 ≤ sizeLine then some (⟨true, .lst ((Txt.split a b).map .str)⟩ : Cell) else none) = some c := f
    split at f'
    · rename_i h
      cases f'
      exact ⟨a, b, rfl, rfl, h.1, h.2, fun p hp => q _ _ (.lst hp (repL_str _))⟩
    · cases f'
  | _ => cases f
def dPart (a : Str) : D → Option Cell
  | .str b => if (b.length == 0) = false ∧ a.length ≤ sizeLine then cv (.tup [.str (Txt.partition a b).1, .str (Txt.partition a b).2.1, .str (Txt.partition a b).2.2]) else none
  | _ => none
end
end Ov


set_option Elab.async false
set_option linter.all false
set_option maxRecDepth 100000
set_option maxHeartbeats 4000000
namespace Ov
open PySem PySem.Spec PyProof.Rows L2

/-! ### what is owned is changed in its place -/
def mutS (S : Sta) (i : Nat) (d : D) : Sta := { S with sl := S.sl.set i (some ⟨true, d⟩) }
section
variable {X : Cx} {g : Gh} {W : WX} {ids ids1 : List Addr} {S S1 : Sta} {σ : L2.St} {H H1 : Hp} {Z : Addr → Prop} {os : List Opn} {vs : List V} {i : Nat} {d0 d' e : D} {a : Addr} {o : HO} {w : V}
theorem mutS_own {j : Nat} {dj : D} (hs : S.sl[i]? = some (some ⟨true, d0⟩)) (h : (mutS S i d').sl[j]? = some (some ⟨true, dj⟩)) : ∃ d1, S.sl[j]? = some (some ⟨true, d1⟩) := by
  by_cases hj : i = j
  · subst hj
    exact ⟨d0, hs⟩
  · have h' : (S.sl.set i (some ⟨true, d'⟩))[j]? = some (some ⟨true, dj⟩) := h
    rw [List.getElem?_set_ne hj] at h'
    exact ⟨dj, h'⟩
theorem mutS_OA (hs : S.sl[i]? = some (some ⟨true, d0⟩)) {b : Addr} (z : OA (mutS S i d') σ Z b) : OA S σ Z b := by
  rcases z with z | ⟨j, dj, z1, z2⟩
  · exact .inl z
  · obtain ⟨d1, e1⟩ := mutS_own hs z1
    exact .inr ⟨j, d1, e1, z2⟩
theorem upd_keptO {O : Addr → Prop} (h : O a) : Kept H (upd H a o) O := fun b u e n => by
  rw [upd_ne (fun z => n (by rw [z]; exact h))]
  exact e
theorem Rel.mut (r : Rel g ids S σ H Z) (hs : S.sl[i]? = some (some ⟨true, d0⟩)) (hv : σ[i]? = some (some (.ref a))) (h' : OwnRep g ids (upd H a o) (OA S σ Z) d' a) : Rel g ids (mutS S i d') σ (upd H a o) Z := by
  have ha : OwnA S σ a := ⟨i, d0, hs, hv⟩
  refine ⟨by show (S.sl.set i _).length = _; rw [List.length_set]; exact r.len, fun j c e => ?_, fun j k dj dk b h1 h2 h3 h4 => ?_, fun b z => ?_, fun b z => upd_trk (r.trk b z), r.cnt, r.nd, fun b hb => upd_trk (r.idt b hb)⟩
  · have e' : (S.sl.set i (some ⟨true, d'⟩))[j]? = some (some c) := e
    by_cases hj : i = j
    · subst hj
      rw [List.getElem?_set_self (List.getElem?_eq_some_iff.mp hs).1] at e'
      cases e'
      exact ⟨_, hv, a, rfl, h'.mono (fun _ q => q) .refl (fun b z => .inl (mutS_OA hs z)) .rfl⟩
    · rw [List.getElem?_set_ne hj] at e'
      obtain ⟨v, e1, e2⟩ := r.rep j c e'
      refine ⟨v, e1, e2.mono (fun hc b u eb q => ?_) (upd_keptO (.inr ha)) (fun b z => .inl (mutS_OA hs z)) .rfl⟩
      obtain ⟨k, dj⟩ := c
      have hk : k = true := hc
      subst hk
      subst eb
      rw [upd_ne fun z => hj (by subst z; exact r.inj i j d0 dj b hs e' hv e1)]
      exact q
  · obtain ⟨d1, e1⟩ := mutS_own hs h1
    obtain ⟨d2, e2⟩ := mutS_own hs h2
    exact r.inj j k d1 d2 b e1 e2 h3 h4
  · obtain ⟨j, dj, z1, z2⟩ := z
    obtain ⟨d1, e1⟩ := mutS_own hs z1
    exact r.apart b ⟨j, d1, e1, z2⟩
theorem ZL.one_sh : ZL Z [.v ⟨false, e⟩] [w] = Z := by
  funext b
  refine propext ⟨fun z => z.elim id ?_, .inl⟩
  rintro ⟨i, d', h1, h2⟩
  cases i with
  | zero => cases h1
  | succ i => simp at h1
theorem Aft.mut (A : Aft g ids S σ H Z os vs ids1 S1 H1) (hs : S1.sl[i]? = some (some ⟨true, d0⟩)) (hv : σ[i]? = some (some (.ref a))) (h' : OwnRep g ids1 (upd H1 a o) (OA S1 σ Z) d' a) (he : Rep g ids1 (upd H1 a o) (OA S1 σ Z) e w) :
    Aft g ids S σ H Z [.v ⟨false, e⟩] [w] ids1 (mutS S1 i d') (upd H1 a o) := by
  have r0 := (A.rel.less fun b z => .inl z).mut hs hv h'
  obtain ⟨ds, e0⟩ := A.sub i d0 hs
  have ha : OwnA S σ a := ⟨i, ds, e0, hv⟩
  refine ⟨by rw [ZL.one_sh]; exact r0, rfl, fun k p x h1 h2 => ?_, fun k d b h1 => ?_, fun k l d d2 b h1 => ?_, fun b u eb n => ?_, fun b hb => upd_trk (A.trk b hb), fun k d h => ?_, fun k c h => ?_, A.ids, A.pin⟩
  · cases k with
    | zero =>
      cases h1
      cases h2
      rw [ZL.one_sh]
      show Rep g ids1 _ _ e w
      exact he.mono .refl (fun b z => .inl (mutS_OA hs z)) .rfl
    | succ k => simp at h1
  · cases k with
    | zero => cases h1
    | succ k => simp at h1
  · cases k with
    | zero => cases h1
    | succ k => simp at h1
  · rw [upd_ne fun z => n (by rw [z]; exact ha)]
    exact A.keep b u eb n
  · obtain ⟨d1, e1⟩ := mutS_own hs h
    exact A.sub k d1 e1
  · obtain ⟨c1, e1⟩ := A.bnd k c h
    by_cases hk : i = k
    · subst hk
      exact ⟨_, List.getElem?_set_self (List.getElem?_eq_some_iff.mp e1).1⟩
    · exact ⟨c1, by show (S1.sl.set i _)[k]? = _; rw [List.getElem?_set_ne hk]; exact e1⟩
/-- an operand is shared: it stands for its data -/
theorem Aft.takenS (r : Rel g ids S σ H Z) (A : Aft g ids S σ H Z os vs ids1 S1 H1) {ps : List Opn} {p : Opn} {k : Nat} {d : D} {x : V} (hp : p ∈ ps) (h1 : os[k]? = some p) (h2 : vs[k]? = some x) (hc : curD S1 p = some d) : Rep g ids1 H1 (OA (Ov.frzL S1 ps) σ Z) d x := by
  have B := A.frzL (ps := ps)
  have q := B.res k p x h1 h2
  have gr : ∀ a, OA (Ov.frzL S1 ps) σ Z a → OA (Ov.frzL S1 ps) σ (ZL Z os vs) a := fun a z => OA.sub z
  cases p with
  | s j =>
    obtain ⟨q1, c, q2⟩ := q
    obtain ⟨v, e1, e2⟩ := B.rel.rep j c q2
    rw [q1] at e1
    have e3 : x = v := Option.some.inj (Option.some.inj e1)
    subst e3
    rw [← frzL_cur (ps := ps)] at hc
    have hc' : ((Ov.frzL S1 ps).sl[j]?.join).map (·.d) = some d := hc
    rw [q2] at hc'
    have e4 : c.d = d := Option.some.inj hc'
    obtain ⟨b, d'⟩ := c
    dsimp only at e4
    subst e4
    cases b with
    | true => exact absurd q2 (frzL_not hp)
    | false => exact e2.sh.mono .refl (fun a z => .inl (gr a z)) .rfl
  | v c =>
    obtain ⟨b, d'⟩ := c
    have e4 : d' = d := Option.some.inj hc
    subst e4
    cases b with
    | false => exact CellRep.sh (show CellRep g ids1 H1 (OA (Ov.frzL S1 ps) σ (ZL Z os vs)) ⟨false, d'⟩ x from q) |>.mono .refl (fun a z => .inl (gr a z)) .rfl
    | true =>
      obtain ⟨a, e5, e6⟩ := CellRep.own (show CellRep g ids1 H1 (OA (Ov.frzL S1 ps) σ (ZL Z os vs)) ⟨true, d'⟩ x from q)
      subst e5
      refine e6.free gr fun z => ?_
      rcases z with z | z
      · exact r.trk a z (A.new k d' a h1 h2)
      · exact B.rel.apart a z (.inr ⟨k, d', h1, h2⟩)
end

/-! ### methods of what a slot owns -/
def isTy (T : String) : D → Bool
  | .lst _ => T == "list"
  | _ => false
def mMut (T : String) (F : D → List D → Option (D × D)) (i : Nat) (ms : M (List Opn)) : M Opn := fun S0 => match S0.sl[i]? with
  | some (some ⟨true, d0⟩) => if isTy T d0 = true then (M.bind ms fun os S => match os.mapM (curD S) with
    | some ds => (match (frzL S os).sl[i]? with
      | some (some ⟨true, d⟩) => (match F d ds with
        | some (d', e) => .ok (.v ⟨false, e⟩) (mutS (frzL S os) i d')
        | none => .stuck)
      | _ => .stuck)
    | none => .stuck) S0 else .stuck
  | _ => .stuck
def MutR (g : Gh) (r : V → List V → Hp → VK → Prop) (F : D → List D → Option (D × D)) : Prop :=
  ∀ ids H O a d es vs d' e Q, OwnRep g ids H O d a → O a → RepL g ids H O es vs → F d es = some (d', e) → (∀ v o, OwnRep g ids (upd H a o) O d' a → Rep g ids (upd H a o) O e v → Q v (upd H a o)) → r (.ref a) vs H Q
section
variable {X : Cx} {g : Gh} {W : WX} {e : Expr} {es : List Expr} {m : M Opn} {ms : M (List Opn)} {i : Nat} {T id : String} {name x : Str} {p apos cpos pos : Pos} {r : V → List V → Hp → VK → Prop} {F : D → List D → Option (D × D)}
theorem look_tyV {ids : List Addr} {H : Hp} {O : Addr → Prop} {d : D} {a : Addr} (h : OwnRep g ids H O d a) (t : isTy T d = true) : tyV g.K T (.ref a) H := by
  cases d with
  | lst ds =>
    obtain ⟨xs, e, _⟩ := h
    have ht : T = "list" := beq_iff_eq.mp t
    exact .inl ⟨ht, xs, .of e⟩
  | _ => cases t
/-- the slot read, then the rest -/
theorem t_mut {t : TA} (hp : MutR g r F) (ht : ∀ σ H Q, tDs g W ms σ H Q → t σ H Q) (σ : L2.St) (H : Hp) (Q : VK) (h : tD g W (mMut T F i ms) σ H Q) : tBM g.K T r (tVar i) t σ H Q := by
  obtain ⟨ids, S, Z, rl, h⟩ := tD_wp.mp h
  unfold mMut at h
  cases e0 : S.sl[i]? with
  | none => rw [e0] at h; exact h.elim
  | some z =>
    cases z with
    | none => rw [e0] at h; exact h.elim
    | some c =>
      obtain ⟨b, d0⟩ := c
      cases b with
      | false => rw [e0] at h; exact h.elim
      | true =>
        rw [e0] at h
        dsimp only at h
        by_cases hT : isTy T d0 = true
        · rw [if_pos hT] at h
          obtain ⟨v, hv, hr⟩ := rl.rep i _ e0
          obtain ⟨a, ea, hr0⟩ := hr.own
          subst ea
          refine ⟨.ref a, hv, look_tyV hr0 hT, ht _ _ _ ?_⟩
          refine tDs_first rl h fun os vs S1 H1 ids1 A h => ?_
          cases em : os.mapM (curD S1) with
          | none => rw [em] at h; exact h.elim
          | some ds =>
            rw [em] at h
            dsimp only at h
            obtain ⟨rL, B⟩ := A.taken rl em
            cases e1 : (Ov.frzL S1 os).sl[i]? with
            | none => rw [e1] at h; exact h.elim
            | some z =>
              cases z with
              | none => rw [e1] at h; exact h.elim
              | some c =>
                obtain ⟨b, d⟩ := c
                cases b with
                | false => rw [e1] at h; exact h.elim
                | true =>
                  rw [e1] at h
                  dsimp only at h
                  cases e2 : F d ds with
                  | none => rw [e2] at h; exact h.elim
                  | some z =>
                    obtain ⟨d', e'⟩ := z
                    rw [e2] at h
                    have r0 := B.rel.less (Z' := Z) fun b z => .inl z
                    obtain ⟨v1, hv1, hr1⟩ := r0.rep i _ e1
                    obtain ⟨a1, ea1, hr1⟩ := hr1.own
                    rw [hv] at hv1
                    cases hv1
                    cases ea1
                    refine hp ids1 H1 (OA (Ov.frzL S1 os) σ Z) a d ds vs d' e' Q hr1 (.inr ⟨i, d, e1, hv⟩) rL e2 fun w o h1 h2 => h w _ ids1 (B.mut e1 hv h1 h2)
        · rw [if_neg hT] at h
          exact h.elim
theorem de_mut (B : g.K = X.K) (pa : PlainAttrs T) (slot : Slot T name id) (hty : typeOf (.builtin id) = pure (.type "method_descriptor")) (hm : MtR X id r) (hp : MutR g r F) (hN : X.N[i]? = some x) (hv : Vis X.env.scope x) (hd : (x == ("__debug__" : Str)) = false) (hcd : (x == ("__classdict__" : Str)) = false) (ha : DA X g W (e :: es) ms)
    (hbase : attributeBase (.Name x p) name X.env (eval (.Name x p) X.env) = eval (.Name x p) X.env)
    (hfew : ((backTo cpos (starEach (e :: es) X.env)).all (fun x => !x.1) && (backToKw cpos (keywordEach [] X.env)).all (fun x => x.1.isSome)
      && decide ((e :: es).length + ([] : List Keyword).length + (if ([] : List Keyword).isEmpty then 0 else 1) < 30)) = true)
    (hline : (apos.endLine == cpos.line) = true) (hs : starEach (e :: es) X.env = (false, eval e X.env) :: starEach es X.env) (hplain : (backTo cpos (starEach es X.env)).any (·.1) = false) :
    DE X g W (.Call (.Attribute (.Name x p) name apos) (e :: es) [] cpos) (mMut T F i ms) := by
  refine pe_imp (pe_bm pa slot hty hm (pe_var hN hv hd hcd) ha hbase hfew hline hs hplain) fun σ H Q q => ?_
  have z := t_mut hp (t := tDs g W ms) (fun _ _ _ q => q) σ H Q q
  rw [B] at z
  exact z
theorem de_mut0 (B : g.K = X.K) (pa : PlainAttrs T) (slot : Slot T name id) (hty : typeOf (.builtin id) = pure (.type "method_descriptor")) (hm : MtR X id r) (hp : MutR g r F) (hN : X.N[i]? = some x) (hv : Vis X.env.scope x) (hd : (x == ("__debug__" : Str)) = false) (hcd : (x == ("__classdict__" : Str)) = false)
    (hbase : attributeBase (.Name x p) name X.env (eval (.Name x p) X.env) = eval (.Name x p) X.env) (hline : (apos.endLine == cpos.line) = true) :
    DE X g W (.Call (.Attribute (.Name x p) name apos) [] [] cpos) (mMut T F i mNil) := by
  refine pe_imp (pe_bm0 pa slot hty hm (pe_var hN hv hd hcd) hbase hline) fun σ H Q q => ?_
  have z := t_mut hp (t := tNil) (fun σ H Q q => ?_) σ H Q q
  · obtain ⟨y, h1, h2, h3⟩ := z
    rw [B] at h2
    exact ⟨y, h1, h2, h3⟩
  · obtain ⟨ids, S, Z, rl, q⟩ := q
    exact q [] H ids (Aft.nil rl)
def fAppend : D → List D → Option (D × D)
  | .lst ds, [e] => if ds.length < sizeLine then some (.lst (ds ++ [e]), .non) else none
  | _, _ => none
theorem repL_snoc {ids : List Addr} {H : Hp} {O : Addr → Prop} {ds : List D} {xs : List V} {e : D} {v : V} (h : RepL g ids H O ds xs) (k : Rep g ids H O e v) : RepL g ids H O (ds ++ [e]) (xs ++ [v]) := by
  refine ⟨by simp [h.1], fun i d x h1 h2 => ?_⟩
  by_cases hi : i < ds.length
  · rw [List.getElem?_append_left hi] at h1
    rw [List.getElem?_append_left (by rw [h.1]; exact hi)] at h2
    exact h.2 i d x h1 h2
  · rw [List.getElem?_append_right (by omega)] at h1
    rw [List.getElem?_append_right (by rw [h.1]; omega), h.1] at h2
    cases hj : i - ds.length with
    | zero =>
      rw [hj] at h1 h2
      cases h1
      cases h2
      exact k
    | succ j =>
      rw [hj] at h1
      simp at h1
theorem mr_append : MutR g rAppend fAppend := by
  intro ids H O a d es vs d' e Q h ho hl f q
  cases d with
  | lst ds =>
    obtain ⟨xs, ex, rx⟩ := h
    match es, hl, f with
    | [e1], hl, f =>
      have f' : (if ds.length < sizeLine then some (D.lst (ds ++ [e1]), D.non) else none) = some (d', e) := f
      split at f'
      · rename_i hz
        cases f'
        obtain ⟨v, rfl⟩ : ∃ v, vs = [v] := by
          match vs, hl.1 with
          | [v], _ => exact ⟨v, rfl⟩
        refine ⟨a, xs, v, rfl, rfl, ex, by rw [rx.1]; exact hz, q _ _ ⟨_, upd_same, ?_⟩ .non⟩
        exact (repL_snoc rx (hl.2 0 e1 v rfl rfl)).mono (upd_keptO ho) (fun b z => .inl z) .rfl
      · cases f'
  | _ => cases f
def fClear : D → List D → Option (D × D)
  | .lst ds, [] => some (.lst [], .non)
  | _, _ => none
theorem mr_clear : MutR g rClear fClear := by
  intro ids H O a d es vs d' e Q h ho hl f q
  cases d with
  | lst ds =>
    obtain ⟨xs, ex, rx⟩ := h
    match es, hl, f with
    | [], hl, f =>
      cases f
      obtain rfl : vs = [] := List.eq_nil_of_length_eq_zero hl.1
      exact ⟨a, xs, rfl, rfl, ex, q _ _ ⟨_, upd_same, rfl, fun i d x h1 => by simp at h1⟩ .non⟩
  | _ => cases f
end

/-! ### x[i] = e -/
def mPut (F : D → D → D → Option D) (i : Nat) (mi mv : M Opn) : M Opn := M.bind mv fun o S0 => match S0.sl[i]? with
  | some (some ⟨true, _⟩) => (M.bind mi fun j S => match curD S j with
    | some k => (match curD S o with
      | some e => (match (frzL S [j, o]).sl[i]? with
        | some (some ⟨true, d⟩) => (match F d k e with
          | some d' => .ok (.v ⟨false, .non⟩) (mutS (frzL S [j, o]) i d')
          | none => .stuck)
        | _ => .stuck)
      | none => .stuck)
    | none => .stuck) S0
  | _ => .stuck
def PutR (g : Gh) (t : TSet) (F : D → D → D → Option D) : Prop :=
  ∀ ids H O a d k kv e v d' Q, OwnRep g ids H O d a → O a → Rep g ids H O k kv → Rep g ids H O e v → F d k e = some d' → (∀ o, OwnRep g ids (upd H a o) O d' a → Q (upd H a o)) → t (.ref a) kv v H Q
section
variable {X : Cx} {g : Gh} {W : WX} {e k : Expr} {mi mv : M Opn} {i : Nat} {x : Str} {p pos spos : Pos} {t : TSet} {F : D → D → D → Option D}
theorem ds_put (hset : PSet X t) (hp : PutR g t F) (hN : X.N[i]? = some x) (hv : Vis X.env.scope x) (hd : (x == ("__debug__" : Str)) = false) (hcd : (x == ("__classdict__" : Str)) = false) (hi : DE X g W k mi) (he : DE X g W e mv)
    (ha : ∀ v, assign (.Subscript (.Name x p) k spos) X.env v = (do
      let ov ← holding [v] (eval (.Name x p) X.env)
      let iv ← holding [v, ov] (eval k X.env)
      standAt spos
      holding [v, ov, iv] (setItem ov iv v)
      release [v, ov, iv] []))
    (hs : swapsWithSole [.Subscript (.Name x p) k spos] e pos.line X.env = pure false) (hw : swappedStores [.Subscript (.Name x p) k spos] e X.env = pure none)
    (h1 : (assignEach [.Subscript (.Name x p) k spos] X.env).map (·.2) = [assign (.Subscript (.Name x p) k spos) X.env]) : DS X g W (.Assign [.Subscript (.Name x p) k spos] e pos) (sExpr (mPut F i mi mv)) := by
  refine ps_imp (ps_asg he (pg_sub (pe_var hN hv hd hcd) hi hset ha) hs hw h1) fun D' σ H q => ?_
  obtain ⟨ids, S, Z, rl, q⟩ := q
  have q' : Wp g W ids S σ H Z (fun v H' => D'.nx σ H') (mPut F i mi mv S) := by
    unfold sExpr at q
    cases e1 : mPut F i mi mv S with
    | ok o S1 =>
      rw [e1] at q
      exact fun v H' ids' A => q σ H' ids' A.step (A.rel.less fun b z => .inl z)
    | exc x S1 =>
      rw [e1] at q
      exact fun cls d H' ids' A => q cls d σ H' ids' A.sx
    | stuck => rw [e1] at q; exact q
  show tD g W mv σ H fun x H1 => _
  refine tD_first rl q' fun o v S1 H1 ids1 A h => ?_
  cases e0 : S1.sl[i]? with
  | none => rw [e0] at h; exact h.elim
  | some z =>
    cases z with
    | none => rw [e0] at h; exact h.elim
    | some c =>
      obtain ⟨b, d0⟩ := c
      cases b with
      | false => rw [e0] at h; exact h.elim
      | true =>
        rw [e0] at h
        dsimp only at h
        obtain ⟨u, hu, hr⟩ := (A.rel.less (Z' := Z) fun b z => .inl z).rep i _ e0
        obtain ⟨a, ea, hr0⟩ := hr.own
        subst ea
        refine ⟨.ref a, hu, ?_⟩
        refine tD_step A h fun j kv S2 H2 ids2 A2 h => ?_
        cases e2 : curD S2 j with
        | none => rw [e2] at h; exact h.elim
        | some kd =>
          rw [e2] at h
          dsimp only at h
          cases e3 : curD S2 o with
          | none => rw [e3] at h; exact h.elim
          | some ed =>
            rw [e3] at h
            dsimp only at h
            have B := A2.frzL (ps := [j, o])
            have rk := Aft.takenS rl A2 (ps := [j, o]) (p := j) (k := 1) (x := kv) (by simp) rfl rfl e2
            have re := Aft.takenS rl A2 (ps := [j, o]) (p := o) (k := 0) (x := v) (by simp) rfl rfl e3
            cases e4 : (Ov.frzL S2 [j, o]).sl[i]? with
            | none => rw [e4] at h; exact h.elim
            | some z =>
              cases z with
              | none => rw [e4] at h; exact h.elim
              | some c =>
                obtain ⟨b, d⟩ := c
                cases b with
                | false => rw [e4] at h; exact h.elim
                | true =>
                  rw [e4] at h
                  dsimp only at h
                  cases e5 : F d kd ed with
                  | none => rw [e5] at h; exact h.elim
                  | some d' =>
                    rw [e5] at h
                    have r0 := B.rel.less (Z' := Z) fun b z => .inl z
                    obtain ⟨v1, hv1, hr1⟩ := r0.rep i _ e4
                    obtain ⟨a1, ea1, hr1⟩ := hr1.own
                    rw [hu] at hv1
                    cases hv1
                    cases ea1
                    exact hp ids2 H2 (OA (Ov.frzL S2 [j, o]) σ Z) a d kd kv ed v d' _ hr1 (.inr ⟨i, d, e4, hu⟩) rk re e5 fun o' h1 => h .non _ ids2 (B.mut e4 hu h1 .non)
def fSetIx : D → D → D → Option D
  | .lst ds, .int k, e => (ixN ds.length k).map fun j => .lst (ds.set j e)
  | _, _, _ => none
theorem repL_set {ids : List Addr} {H : Hp} {O : Addr → Prop} {ds : List D} {xs : List V} {e : D} {v : V} {j : Nat} (h : RepL g ids H O ds xs) (k : Rep g ids H O e v) : RepL g ids H O (ds.set j e) (xs.set j v) := by
  refine ⟨by simp [h.1], fun i d x h1 h2 => ?_⟩
  by_cases hi : j = i
  · subst hi
    by_cases hl : j < ds.length
    · rw [List.getElem?_set_self hl] at h1
      rw [List.getElem?_set_self (by rw [h.1]; exact hl)] at h2
      cases h1
      cases h2
      exact k
    · rw [List.getElem?_eq_none (by simp; omega)] at h1
      cases h1
  · rw [List.getElem?_set_ne hi] at h1 h2
    exact h.2 i d x h1 h2
theorem pr_setL : PutR g rSetL fSetIx := by
  intro ids H O a d k kv e v d' Q h ho hk he f q
  cases d with
  | lst ds =>
    obtain ⟨xs, ex, rx⟩ := h
    cases k with
    | int n =>
      cases hk
      have f' : (ixN ds.length n).map (fun j => D.lst (ds.set j e)) = some d' := f
      cases e1 : ixN ds.length n with
      | none => rw [e1] at f'; cases f'
      | some j =>
        rw [e1] at f'
        cases f'
        exact ⟨a, xs, n, j, rfl, rfl, ex, by rw [rx.1]; exact e1, q _ ⟨_, upd_same, (repL_set rx he).mono (upd_keptO ho) (fun b z => .inl z) .rfl⟩⟩
    | _ => cases f
  | _ => cases f
end
end Ov


set_option Elab.async false
set_option linter.all false
set_option maxRecDepth 100000
set_option maxHeartbeats 4000000
namespace Ov
open PySem PySem.Spec PyProof.Rows L2

/-! ### blocks of comprehensions -/
theorem relabel_lookup {env : Env} : ∀ {names : List (Str × NameKind)} {x : Str} {k : NameKind}, names.lookup x = some k →
    ∃ k', (names.map fun (n, k) => if (k == NameKind.free && env.scope.kind == .function && env.kindOf n == some .cell) then (n, NameKind.cell) else (n, k)).lookup x = some k' ∧ (k' = k ∨ (k = .free ∧ k' = .cell))
  | [], _, _, h => by simp at h
  | (n, k0) :: r, x, k, h => by
    have ih := @relabel_lookup env r x k
    show ∃ k', List.lookup x ((if (k0 == NameKind.free && env.scope.kind == .function && env.kindOf n == some .cell) = true then (n, NameKind.cell) else (n, k0)) :: _) = _ ∧ _
    cases hx : x == n with
    | true =>
      simp only [List.lookup_cons, hx] at h
      cases h
      by_cases hc : (k0 == NameKind.free && env.scope.kind == .function && env.kindOf n == some .cell) = true
      · rw [if_pos hc]
        refine ⟨.cell, by simp only [List.lookup_cons, hx], .inr ⟨?_, rfl⟩⟩
        have h1 : (k0 == NameKind.free) = true := by
          simp only [Bool.and_eq_true] at hc
          exact hc.1.1
        cases k0 <;> first | rfl | cases h1
      · rw [if_neg hc]
        exact ⟨k0, by simp only [List.lookup_cons, hx], .inl rfl⟩
    | false =>
      simp only [List.lookup_cons, hx] at h
      by_cases hc : (k0 == NameKind.free && env.scope.kind == .function && env.kindOf n == some .cell) = true
      · rw [if_pos hc]; simp only [List.lookup_cons, hx]; exact ih h
      · rw [if_neg hc]; simp only [List.lookup_cons, hx]; exact ih h
section
variable {P : Program} {w : World} {K : PySem.W.Frag} {mg : Str → Option Value} {base : Heap} {k : Nat} {X : Cx} {g : Gh} {W : WX} {N : List Str} {sc : Scope} {qr : Bool}
theorem Wf.blk (C : Wf qr P w K mg base k N sc X g W) {scope : Scope} (hk : scope.kind = .function) (s : Shared) (H : Hp) (Ca : Addr) (cl : List (Str × Addr)) (fp : List Addr) : Wf qr P w K mg base k N scope (X.blk s H scope (compEnvC scope cl Ca X.env) fp) g W0 := by
  refine ⟨C.gK, C.gm, C.P, C.w, C.K, C.m, C.b, C.N, hk, fun x h => ?_, fun x h => ?_, fun x h => ?_, fun x h => ?_, fun x h => ?_, C.nd, ?_, C.rm, C.gd, C.cm, .never⟩
  · obtain ⟨k', h1, h2 | ⟨h2, _⟩⟩ := relabel_lookup (env := X.env) h
    · rw [h2] at h1; exact h1
    · cases h2
  · obtain ⟨k', h1, h2 | ⟨h2, _⟩⟩ := relabel_lookup (env := X.env) h
    · rw [h2] at h1; exact h1
    · cases h2
  · obtain ⟨k', h1, h2 | ⟨_, h2⟩⟩ := relabel_lookup (env := X.env) h
    · rw [h2] at h1; exact .inr h1
    · rw [h2] at h1; exact .inl h1
  · obtain ⟨k', h1, h2 | ⟨h2, _⟩⟩ := relabel_lookup (env := X.env) h
    · rw [h2] at h1; exact h1
    · cases h2
  · show (scope.names.lookup x == some .cell) = true
    rw [h]
    rfl
  · exact fun u s' ⟨a, B, sI, pins, σ, H, cls, d, e, I, nb, up, sky, na, os, ag, z⟩ => z
theorem Wf.vis (C : Wf qr P w K mg base k N sc X g W) {x : Str} (h : sc.names.lookup x = some .local ∨ sc.names.lookup x = some .cell ∨ sc.names.lookup x = some .free) : Vis X.env.scope x := by
  rcases h with h | h | h
  · exact .inl (C.loc x h)
  · exact .inr (.inl (C.cel x h))
  · exact (C.fre x h).elim (fun z => .inr (.inl z)) (fun z => .inr (.inr z))
theorem Wf.lc (C : Wf qr P w K mg base k N sc X g W) {x : Str} (h : sc.names.lookup x = some .local ∨ sc.names.lookup x = some .cell) : Loc X.env.scope x := h.elim (fun h => .inl (C.loc x h)) (fun h => .inr (C.cel x h))
theorem Wf.gl (C : Wf qr P w K mg base k N sc X g W) {x : Str} (h : sc.names.lookup x = some .globalImplicit) : Gl X x := C.glb x h
/-- what a block's names must be -/
structure BOk (N : List Str) (sc scope : Scope) (own : List (Str × Nat)) : Prop where
  kind : scope.kind = .function
  uniq : ∀ y ∈ scope.names, scope.names.lookup y.1 = some y.2
  ix : ∀ p ∈ own, N[p.2]? = some p.1
  free : ∀ y ∈ scope.names, y.2 = .free → sc.names.lookup y.1 = some .cell ∨ sc.names.lookup y.1 = some .free
  own : ∀ y ∈ scope.names, y.2 = .local ∨ y.2 = .cell → y.1 ∈ own.map (·.1) ∨ y.1 ∉ N
theorem BOk.ok {scope : Scope} {own : List (Str × Nat)} (b : BOk N sc scope own) (C : Wf qr P w K mg base k N sc X g W) : BlkOk X.N X.env.scope scope own := by
  rw [C.N]
  refine ⟨b.kind, b.uniq, b.ix, fun y h e => ?_, b.own⟩
  rcases b.free y h e with z | z
  · exact .inl (C.cel _ z)
  · exact C.fre _ z
variable {elt tg iter : Expr} {ifs : List Expr} {scope : Scope} {own : List (Str × Nat)} {pos : Pos} {mi : M (List D)} {am : AM} {L : List Nat} {tst : M Bool} {me : M Opn}
theorem de_lc (C : Wf qr P w K mg base k N sc X g W) (hi : DI X g W tg iter mi) (b : BOk N sc scope own) (hL : ∀ i ∈ L, i ∈ own.map (·.2)) (hg : ∀ X', Wf qr P w K mg base k N scope X' g W0 → DG X' g L tg am) (ht : ∀ X', Wf qr P w K mg base k N scope X' g W0 → DTs X' g W0 ifs tst)
    (he : ∀ X', Wf qr P w K mg base k N scope X' g W0 → DE X' g W0 elt me) (hs : ∀ x, foldedSetIterable iter X.env x = pure x) : DE X g W (.ListComp elt [⟨tg, iter, ifs, 0⟩] scope pos) (mLC mi am tst me (own.map (·.2))) :=
  pe_imp (pe_lc C.cm C.nd hi (b.ok C) (fun s H Ca cl fp => hg _ (C.blk b.kind s H Ca cl fp)) (fun s H Ca cl fp => ht _ (C.blk b.kind s H Ca cl fp)) (fun s H Ca cl fp => he _ (C.blk b.kind s H Ca cl fp)) hs)
    fun σ H Q q => t_lc hL (fun _ _ _ q => q) (fun _ _ _ _ q => q) (fun _ _ _ q => q) (fun _ _ _ q => q) σ H Q q
theorem asg_read {m : M Opn} {i : Nat} {D' : Ends} {σ : L2.St} {H : Hp} (q : tS g W (sAsg m (setSl i)) D' σ H) : tD g W m σ H fun x H1 => gName i x σ H1 D'.nx := by
  obtain ⟨ids, S, Z, r, q⟩ := q
  refine tD_wp.mpr ⟨ids, S, Z, r, ?_⟩
  unfold sAsg at q
  cases e : m S with
  | ok o S1 =>
    rw [e] at q
    dsimp only at q
    intro v H1 ids1 A
    cases e2 : Ov.takeC S1 o with
    | none => rw [e2] at q; exact q.elim
    | some p =>
      obtain ⟨c, S2⟩ := p
      rw [e2] at q
      refine take_sto (am := setSl i) (L := [i]) (tg := gName i) (fun v σ H Q q => ?_) r A e2 q
      obtain ⟨ids, S, Z, c, r, hc, hz, q⟩ := q
      cases e : setSl i c S with
      | none => rw [e] at q; exact q.elim
      | some S' =>
        rw [e] at q
        exact q _ (set_sto r hc hz e)
  | exc x S1 =>
    rw [e] at q
    exact fun cls d H1 ids1 A => q cls d σ H1 ids1 A.sx
  | stuck => rw [e] at q; exact q
theorem ds_setLc {i : Nat} {y : Str} {py spos : Pos} (C : Wf qr P w K mg base k N sc X g W) (hy : N[i]? = some y) (hyl : sc.names.lookup y = some .local) (hi : DI X g W tg iter mi) (b : BOk N sc scope own) (hL : ∀ i ∈ L, i ∈ own.map (·.2)) (hg : ∀ X', Wf qr P w K mg base k N scope X' g W0 → DG X' g L tg am)
    (ht : ∀ X', Wf qr P w K mg base k N scope X' g W0 → DTs X' g W0 ifs tst) (he : ∀ X', Wf qr P w K mg base k N scope X' g W0 → DE X' g W0 elt me) (hsw : X.env.scope.names.lookup y = some .local → swapsWith (.ListComp elt [⟨tg, iter, ifs, 0⟩] scope pos) (some (.Name y py)) spos.line X.env = pure true)
    (hs : ∀ x, foldedSetIterable iter X.env x = pure x) : DS X g W (.Assign [.Name y py] (.ListComp elt [⟨tg, iter, ifs, 0⟩] scope pos) spos) (sAsg (mLC mi am tst me (own.map (·.2))) (setSl i)) :=
  ps_imp (ps_setLc C.cm C.nd (by rw [C.N]; exact hy) (C.loc y hyl) (hsw (C.loc y hyl)) hi (b.ok C) (fun s H Ca cl fp => hg _ (C.blk b.kind s H Ca cl fp)) (fun s H Ca cl fp => ht _ (C.blk b.kind s H Ca cl fp)) (fun s H Ca cl fp => he _ (C.blk b.kind s H Ca cl fp)) hs)
    fun D' σ H q => t_lc hL (fun _ _ _ q => q) (fun _ _ _ _ q => q) (fun _ _ _ q => q) (fun _ _ _ q => q) σ H _ (asg_read q)
end

/-! ### enumerate -/
def numbered : Nat → List D → List D
  | _, [] => []
  | n, d :: ds => .tup [.int n, d] :: numbered (n + 1) ds
theorem numbered_len : ∀ {ds : List D} {n : Nat}, (numbered n ds).length = ds.length
  | [], _ => rfl
  | _ :: ds, n => by show (numbered (n + 1) ds).length + 1 = ds.length + 1; rw [numbered_len]
theorem numbered_get : ∀ {ds : List D} {n i : Nat} {d : D}, ds[i]? = some d → (numbered n ds)[i]? = some (.tup [.int ((n + i : Nat) : Int), d])
  | [], _, _, _, h => by simp at h
  | e :: ds, n, 0, d, h => by cases h; rfl
  | e :: ds, n, i + 1, d, h => by
    have z := numbered_get (n := n + 1) (show ds[i]? = some d from h)
    show (numbered (n + 1) ds)[i]? = _
    rw [z]
    congr 5
    omega
section
variable {X : Cx} {g : Gh} {W : WX} {e : Expr} {ms : M (List Opn)}
theorem ite_ok {ids : List Addr} {H : Hp} {O : Addr → Prop} {a : Addr} {xs : List V} {ds : List D} (h : H a = some (.lst xs)) (ho : ¬ O a) (r : RepL g ids H O ds xs) : ItOk g ids (Ite X.K a) H O (numbered 0 ds) := by
  intro ids2 H2 O2 hi hk hg ht
  have h2 := hk a _ h ho
  refine ⟨fun i hl => ⟨xs, xs[i]'(by rw [r.1]; rw [numbered_len] at hl; exact hl), .of h2, List.getElem?_eq_getElem (by rw [r.1]; rw [numbered_len] at hl; exact hl)⟩, fun i hl => ⟨xs, .of h2, by rw [r.1]; rw [numbered_len] at hl; exact hl⟩, fun i v H3 hl y => ?_⟩
  rw [numbered_len] at hl
  obtain ⟨T, x, rfl, hT, rfl, y⟩ := y
  refine ⟨_, numbered_get (List.getElem?_eq_getElem hl), ?_, fun b o e => by rw [upd_ne (fun z => by rw [z, hT] at e; cases e)]; exact e⟩
  have rx := (r.2 i _ x (List.getElem?_eq_getElem hl) (y xs (.of h2))).mono hk hg hi
  refine .tup upd_same (fun z => ht T z hT) rfl fun j d u h3 h4 => ?_
  match j, h3, h4 with
  | 0, h3, h4 =>
    cases h3
    cases h4
    rw [Nat.zero_add]
    exact .int _
  | 1, h3, h4 =>
    cases h3
    cases h4
    exact rx.mono (upd_kept hT) (fun a z => .inl z) .rfl
  | j + 2, h3, h4 => simp at h3
/-- over a list alone: the library's own rule does the walk -/
def mEnum (ms : M (List Opn)) : M (List D) := M.bind ms fun os S => match os with
  | [o] => (match curD S o with
    | some (.lst ds) => .ok (numbered 0 ds) (frz S o)
    | _ => .stuck)
  | _ => .stuck
theorem di_enum {p pos tpos : Pos} {elts : List Expr} {kk : Nat} (hg : Gl X "enumerate") (hm : X.mg "enumerate" = none) (ha : DA X g W [e] ms) (hs : starEach [e] X.env = [(false, eval e X.env)]) :
    DI X g W (.Tuple elts kk tpos) (.Call (.Name "enumerate" p) [e] [] pos) (mEnum ms) := by
  refine pi_imp (pi_enum hg hm ha hs) fun σ H R q => ?_
  obtain ⟨ids, S, Z, r, q⟩ := q
  refine tDs_wp.mpr ⟨ids, S, Z, r, ?_⟩
  unfold mEnum M.bind at q
  cases e1 : ms S with
  | stuck => rw [e1] at q; exact q.elim
  | exc x S1 => rw [e1] at q; exact q
  | ok os S1 =>
    rw [e1] at q
    dsimp only at q
    intro vs H1 ids1 A
    match os, q, A with
    | [], q, A => exact q.elim
    | _ :: _ :: _, q, A => exact q.elim
    | [o], q, A =>
      obtain ⟨v, rfl⟩ : ∃ v, vs = [v] := by
        match vs, A.len with
        | [v], _ => exact ⟨v, rfl⟩
      dsimp only at q
      cases e2 : curD S1 o with
      | none => rw [e2] at q; exact q.elim
      | some d =>
        rw [e2] at q
        have l := A.look (i := 0) rfl rfl e2
        cases d with
        | lst ds =>
          obtain ⟨a, xs, rfl, ex, rx⟩ := l
          refine ⟨a, xs, rfl, .of ex, q _ H1 ids1 (A.frz o).drop ?_⟩
          have rep := Aft.takenS r A (ps := [o]) (p := o) (k := 0) (x := .ref a) (by simp) rfl rfl e2
          cases rep with
          | lst h ho l r' => exact ite_ok h ho ⟨l, r'⟩
        | _ => exact q.elim
end
end Ov


set_option Elab.async false
set_option linter.all false
set_option maxRecDepth 100000
set_option maxHeartbeats 4000000
namespace Ov
open PySem PySem.Spec PyProof.Rows L2

/-! ### how many different texts: what a set of them holds, newest first -/
def addS (seen : List Str) (x : Str) : List Str := if x ∈ seen then seen else x :: seen
theorem addS_mem {seen : List Str} {x y : Str} : y ∈ addS seen x ↔ y ∈ seen ∨ y = x := by
  unfold addS
  by_cases h : x ∈ seen
  · rw [if_pos h]
    exact ⟨.inl, fun z => z.elim id fun e => e ▸ h⟩
  · rw [if_neg h, List.mem_cons]
    exact Or.comm
theorem addS_len {seen : List Str} {x : Str} : (addS seen x).length ≤ seen.length + 1 := by
  unfold addS
  split
  · exact Nat.le_succ _
  · exact Nat.le_refl _
/-- the set at S holds just these -/
abbrev Holds (P : Program) (w : World) (h : Heap) (S : Addr) (seen : List Str) : Prop := h.SetOf (strKind P w) S (fun y => decide (y ∈ seen)) seen.length
theorem Holds.moved {P : Program} {w : World} {h h' : Heap} {S : Addr} {seen : List Str} (x : Holds P w h S seen) (k : ∀ o, h.get? S = some o → h'.get? S = some o) : Holds P w h' S seen :=
  let ⟨o, es, ep, t, ho, rest⟩ := x
  ⟨o, es, ep, t, k o ho, rest⟩
section
variable {P : Program} {w : World} {A : Around} {R : Result → Shared → Prop} {it S : Addr} {fp wr : List Addr} {G : Array GenState → Array GenState → Prop} {n : Nat} {V : Nat → Value → Prop} {St : Nat → Shared → Prop}
/-- the walk of an iterator of texts into a set: by the texts that are still to come -/
theorem pour (W : WalksS P w A.in1 it fp wr G n V St) (apart : S ∉ fp) {xs : List Str} (len : xs.length = n) (text : ∀ i v x, V i v → xs[i]? = some x → ∃ t, v = .str x t) :
    ∀ (rest done : List Str) (seen : List Str) (s : Shared), xs = done ++ rest → seen.length + rest.length < scanBound → St done.length s → Holds P w s.heap S seen →
      (∀ s2, Moved (S :: wr) G s s2 → Holds P w s2.heap S (rest.foldl addS seen) → R (.ok (.ret .none)) s2) → codeAny (model P w) A (.builtin "set.update.loop" ⟨[.ref S, .ref it], []⟩) R s := by
  have far : S ∉ wr := fun z => apart (W.sub S z)
  have wide : ∀ b, b ∈ wr → b ∈ S :: wr := fun b z => List.mem_cons_of_mem S z
  have enter : ∀ {s : Shared}, wpAny (model P w) A.in1 (Builtin.«set.update.loop» ⟨[.ref S, .ref it], []⟩) (fun fin s2 => match fin with | .done f => R (.ok f) s2 | .again c => c.quiet = true ∧ codeAny (model P w) A c R s2) (fun e s2 => R (.error e) s2) s →
      codeAny (model P w) A (.builtin "set.update.loop" ⟨[.ref S, .ref it], []⟩) R s := fun {s} z => by
    have e := codeAny_builtin (prog := P) (w := w) (A := A) (R := R) (s := s) (args := ⟨[.ref S, .ref it], []⟩) PyProof.Rows.F.entry_set_update_loop
    rw [Around.under_plainId PyProof.Rows.F.plain_set_update_loop _] at e
    exact e z
  intro rest
  induction rest with
  | nil =>
    intro done seen s ex room st hold fin
    have ed : done.length = n := by rw [← len, ex, List.append_nil]
    rw [ed] at st
    refine enter ?_
    unfold Builtin.«set.update.loop»
    exact wpAny_bind (W.done s _ _ st fun s2 mv => wpAny_pure (fin s2 (mv.mono wide) (hold.moved fun o e => mv.heap S o far e)))
  | cons x rest ih =>
    intro done seen s ex room st hold fin
    have hi : xs[done.length]? = some x := by rw [ex, List.getElem?_append_right (Nat.le_refl _), Nat.sub_self]; rfl
    have lt : done.length < n := by rw [← len]; exact (List.getElem?_eq_some_iff.mp hi).1
    have room' : seen.length + 1 + rest.length < scanBound := by rw [List.length_cons] at room; omega
    refine enter ?_
    unfold Builtin.«set.update.loop»
    refine wpAny_bind (W.item done.length s _ _ lt st fun v s2 val st2 mv => ?_)
    obtain ⟨t, rfl⟩ := text _ v x val hi
    have hold2 := hold.moved (h' := s2.heap) fun o e => mv.heap S o far e
    unfold setAdd
    refine wpAny_bind (wpAny_holding (wpAny_holding (wpAny_bind ((strKind P w).pyHash (k := x) (strKind_is _ _ _ _) ?_))))
    refine wpAny_setAddHashed_of (knd := strKind P w) (s := { s2 with toks := s2.toks + 1 }) (strKind_is _ _ _ _) rfl hold2 (by omega) fun h3 only hold3 => ?_
    have hold4 : Holds P w h3 S (addS seen x) := by
      refine SetOf_congr hold3 (fun y => ?_) ?_
      · show (decide (y ∈ seen) || decide (y = x)) = decide (y ∈ addS seen x)
        rw [Bool.eq_iff_iff]
        simp only [Bool.or_eq_true, decide_eq_true_eq, addS_mem]
      · show (if decide (x ∈ seen) = true then seen.length else seen.length + 1) = (addS seen x).length
        unfold addS
        by_cases z : x ∈ seen
        · simp [z]
        · simp [z]
    have st3 : St (done.length + 1) { s2 with heap := h3, toks := s2.toks + 1 } := W.frame _ s2 _ _ st2 (Nat.le_succ _) fun b hb o e => by
      rw [only.2 b fun z => apart (z ▸ hb)]
      exact e
    refine wpAny_pure ⟨plainId_quiet PyProof.Rows.F.plain_set_update_loop _, ih (done ++ [x]) (addS seen x) _ (by rw [ex, List.append_assoc]; rfl) (by have := addS_len (seen := seen) (x := x); omega) (by rw [List.length_append]; exact st3) hold4 fun s4 mv4 hold5 => ?_⟩
    refine fin s4 (Moved.trans W.gtrans ((mv.mono wide).then_heap (Nat.le_succ _) fun b o hb e => ?_) mv4) hold5
    rw [only.2 b fun z => hb (by rw [z]; exact List.mem_cons_self)]
    exact e
end
section
variable {P : Program} {w : World} {A : Around} {E : Value → Shared → Prop} {s : Shared}
/-- T(args) for a built-in type, told by its two calls: what __new__ gives, and that __init__ gives None there -/
theorem two_calls {T newId initId : String} {args : List Value} {Q New : Value → Shared → Prop} (ft : TypeCalled T newId initId) (ok : checkTypeCall T ⟨args, []⟩ = pure ())
    (new : codeAny (model P w) A.in1 (.call (.builtin newId) ⟨.type T :: args, []⟩) (wants New E) s)
    (init : ∀ u s1, New u s1 → s1.TypeIs u T ∧ codeAny (model P w) A.in1 (.call (.builtin initId) ⟨u :: args, []⟩) (wants (fun r s2 => r = .none ∧ Q u s2) E) s1) :
    wpAny (model P w) A (call (.type T) args) Q E s := by
  obtain ⟨notT, can, ⟨top, above, mro⟩, made, _, sub, slot⟩ := ft
  refine wpAny_call (codeAny_of_tree ?_)
  show wpAny (model P w) A.in1 (callAny (.type T) ⟨args, []⟩) _ _ s
  refine wpAny_pure ⟨Code.quiet_builtin _ (by decide +kernel), codeAny_builtin PySem.F.entry_type_call ?_⟩
  rw [Around.under_plain (weight_type_call_type T args []) (units_type_call_type T args [])]
  repeat (any_goals (first | assumption | wp_step))
  refine codeAny_mono new fun r1 s1 h1 => ?_
  match r1, h1 with
  | .error _, h1 => exact h1
  | .ok (.ret u), h1 =>
    obtain ⟨ty, run⟩ := init u s1 h1
    have look := slot.lookup
    have bnd := slot.bind u
    repeat (any_goals (first | assumption | wp_step))
    refine codeAny_mono run fun r2 s2 h2 => ?_
    match r2, h2 with
    | .error _, h2 => exact h2
    | .ok (.ret v), h2 =>
      obtain ⟨rfl, q⟩ := h2
      repeat (any_goals (first | assumption | wp_step))
/-- an empty set, just made -/
abbrev newSet (led : Bool) : Obj := { cls := .type "set", dict := none, data := .set #[] 0 (.fresh 0 0 led) }
/-- set(list of texts) -/
theorem set_texts {l : Addr} {us : Array Value} {xs : List Str} {Q : Value → Shared → Prop} (calm : A.handled = none) (isL : s.heap.IsList l us) (texts : StrsAre us.toList xs) (few : xs.length < scanBound)
    (fin : ∀ (h2 : Heap) (tk : Nat), Holds P w h2 s.heap.objs.size (xs.foldl addS []) → (∀ b o, s.heap.get? b = some o → h2.get? b = some o) → Q (.ref s.heap.objs.size) { s with heap := h2, toks := tk }) :
    wpAny (model P w) A (call (.type "set") [.ref l]) Q E s := by
  refine two_calls (New := fun u s1 => ∃ led, u = .ref s.heap.objs.size ∧ s1 = { s with heap := s.heap.push (newSet led) }) PySem.F.called_set (PySem.F.typeCall_set_1 _) (code_set_new_1 _ fun led => ⟨led, rfl, rfl⟩) ?_
  rintro u s1 ⟨led, rfl, rfl⟩
  have here : (s.heap.push (newSet led)).get? s.heap.objs.size = some (newSet led) := Heap.get?_push_size _ rfl
  have ty : Shared.TypeIs { s with heap := s.heap.push (newSet led) } (.ref s.heap.objs.size) "set" := ⟨_, here, rfl⟩
  refine ⟨ty, codeAny_call_builtin PySem.F.called_set.init.plain PySem.F.entry_set_init (check_set_init_1 ty ?_)⟩
  -- the list is no set and no dict: its items are poured
  have lt : l < s.heap.objs.size := by obtain ⟨o, ho, _⟩ := isL; exact Heap.lt_size ho
  have isL2 := isL.push (newSet led)
  have ne1 : l ≠ (s.heap.push (newSet led)).objs.size := fun e => Nat.lt_irrefl _ (Nat.lt_trans lt (by rw [e, Heap.size_push]; exact Nat.lt_succ_self _))
  have none3 : A.in1.in1.in1.handled = none := by simp [calm]
  have len : xs.length = us.size := by rw [← StrsAre.len_eq texts, Array.length_toList]
  obtain ⟨o, ho, hc, n, hd⟩ := id isL2
  obtain ⟨oc, od, ot, osl⟩ := o
  simp only at hc hd
  subst hc hd
  have no1 := PySem.F.sub_list_set
  have no2 := PySem.F.sub_list_frozenset
  have no3 : (Value.type "list" == Value.type "dict") = false := by decide
  unfold Builtin.«set.__init__» noKeywords Builtin.Frozenset.updateFrom
  generalize iter : pyIter = IT
  wp_walk
  subst iter
  refine wpAny_pyIter_list isL2 (wpAny_bind (wpAny_runValue ?_))
  refine pour (P := P) (w := w) (seen := []) (done := []) ((Walks.list none3 _ l ne1 us).toS) ?_ len (fun i v x hv hx => ?_) xs _ rfl (by simpa using few) ⟨⟨_, Heap.get?_push_size _ rfl, rfl, rfl⟩, isL2.push _⟩ ?_ fun s2 mv hold => ?_
  · simp only [List.mem_cons, List.not_mem_nil, or_false, not_or]
    rw [Heap.size_push]
    exact ⟨Nat.ne_of_lt (Nat.lt_succ_self _), fun e => Nat.lt_irrefl _ (e ▸ lt)⟩
  · obtain ⟨t, e⟩ := SS.strs_at texts i v (by rw [Array.getElem?_toList]; exact hv)
    refine ⟨t, ?_⟩
    rw [e, List.getD_eq_getElem?_getD, hx]
    rfl
  · refine SetOf_congr ((setObjOf_fresh (knd := strKind P w) led).setOf (Heap.get?_push_of_some _ here) (by unfold scanBound; omega)) (fun y => ?_) rfl
    simp
  · obtain ⟨h2, gn, dr, tk, os2⟩ := s2
    obtain rfl : gn = s.gens := mv.gens
    obtain rfl : dr = s.drawn := mv.drawn
    obtain rfl : os2 = s.os := mv.os
    refine wpAny_pure (wpAny_pure ⟨rfl, fin h2 tk hold fun b o e => ?_⟩)
    have ltb := Heap.lt_size e
    refine mv.heap b o ?_ (Heap.get?_push_of_some _ (Heap.get?_push_of_some _ e))
    simp only [List.mem_cons, List.not_mem_nil, or_false, not_or]
    rw [Heap.size_push]
    exact ⟨Nat.ne_of_lt ltb, fun e => Nat.lt_irrefl _ (Nat.lt_trans ltb (e ▸ Nat.lt_succ_self _))⟩
end

/-! ### len(set(e)) -/
def texts : List D → Option (List Str) := txts
def dLenSet : D → Option Cell
  | .lst ds => (txts ds).bind fun xs => if xs.length < scanBound then cv (.int ((xs.foldl addS []).length : Nat)) else none
  | _ => none
theorem addS_all : ∀ {xs seen : List Str}, (xs.foldl addS seen).length ≤ seen.length + xs.length
  | [], _ => Nat.le_refl _
  | x :: xs, seen => by
    have h1 := addS_all (xs := xs) (seen := addS seen x)
    have h2 := addS_len (seen := seen) (x := x)
    show (xs.foldl addS (addS seen x)).length ≤ seen.length + (xs.length + 1)
    omega
section
variable {X : Cx} {g : Gh} {W : WX} {e : Expr} {m : M Opn} {p p2 q pos : Pos}
def tSized (K : PySem.W.Frag) (t : TE) : TE := fun σ H Q => t σ H fun x H1 => ∃ (a : Addr) (xs : List Str), x = .ref a ∧ SqL K H1 a (xs.map V.str) ∧ xs.length < scanBound ∧ Q (.int ((xs.foldl addS []).length : Nat)) H1
theorem pe_sized {t : TE} (calm : X.calm = true) (gLen : Gl X "len") (mLen : X.mg "len" = none) (gSet : Gl X "set") (mSet : X.mg "set" = none) (he : PE X e t) (one : starEach [e] X.env = (false, eval e X.env) :: starEach [] X.env) :
    PE X (.Call (.Name "len" p) [.Call (.Name "set" p2) [e] [] q] [] pos) (tSized X.K t) := by
  constructor
  intro pins s σ H Q I h
  have inner : wpAny (model X.prog X.w) X.A (eval (.Call (.Name "set" p2) [e] [] q) X.env) (fun v s2 => ∃ (S : Addr) (xs : List Str) (H2 : Hp), v = .ref S ∧ Inv X pins σ H2 s2 ∧ Holds X.prog X.w s2.heap S (xs.foldl addS []) ∧ xs.length < scanBound ∧ Q (.int ((xs.foldl addS []).length : Nat)) H2) X.xe s := by
    refine Call_ (ld_blt I gSet mSet boot_set (PyProof.Rows.callWith_type1 (PyProof.Rows.args_cons (thn (he.run pins s σ H _ I h) fun v s1 at1 => PyProof.Rows.args_nil ?_) one) one rfl))
    obtain ⟨x, H1, I1, rx, a, xs, rfl, sq, few, q1⟩ := at1
    obtain rfl : v = Value.ref a := rx
    obtain ⟨us, vals, pl, _⟩ := I1.list sq
    exact set_texts (I1.ok.hd calm) pl.isList (by simpa using strsAre_of vals) few fun h2 tk hold keep => ⟨_, xs, H1, rfl, I1.kept keep, hold, few, q1⟩
  refine Call_ (ld_blt I gLen mLen boot_len (PyProof.Rows.callWith_builtin1 (PyProof.Rows.args_cons (thn inner fun v s2 at2 => PyProof.Rows.args_nil ?_) rfl) rfl rfl))
  obtain ⟨S, xs, H2, rfl, I2, ⟨o, es, ep, t, ho, ex, hd, _, _, _, hf, hn⟩, few, q2⟩ := at2
  have le : (xs.foldl addS []).length ≤ xs.length := by simpa using addS_all (xs := xs) (seen := [])
  have bound : scanBound = 4096 := rfl
  exact call_len_set ho ex hd hf (by rw [hn]; omega) ⟨.int ((xs.foldl addS []).length : Nat), H2, I2.tok _, ⟨_, by rw [hn]⟩, q2⟩
theorem de_sized (B : g.K = X.K) (calm : X.calm = true) (gLen : Gl X "len") (mLen : X.mg "len" = none) (gSet : Gl X "set") (mSet : X.mg "set" = none) (he : DE X g W e m) (one : starEach [e] X.env = (false, eval e X.env) :: starEach [] X.env) :
    DE X g W (.Call (.Name "len" p) [.Call (.Name "set" p2) [e] [] q] [] pos) (M.bind m (pure1 dLenSet)) := by
  refine pe_imp (pe_sized calm gLen mLen gSet mSet he one) fun σ H Q q => ?_
  obtain ⟨ids, S, Z, r, q⟩ := tD_wp.mp q
  refine tD_first r q fun o v S1 H1 ids1 A q1 => ?_
  have rule : Pure1 g (fun x H Q => ∃ (a : Addr) (xs : List Str), x = .ref a ∧ SqL g.K H a (xs.map V.str) ∧ xs.length < scanBound ∧ Q (.int ((xs.foldl addS []).length : Nat)) H) dLenSet := by
    intro ids H O d v c Q l f fin
    cases d with
    | lst ds =>
      obtain ⟨a, us, rfl, at_, rep⟩ := l
      have f' : ((txts ds).bind fun xs => if xs.length < scanBound then cv (.int ((xs.foldl addS []).length : Nat)) else none) = some c := f
      cases et : txts ds with
      | none => rw [et] at f'; cases f'
      | some xs =>
        rw [et] at f'
        simp only [Option.bind_some] at f'
        rw [txts_map et] at rep
        obtain rfl := repL_map (f := D.str) (fun _ => rfl) rep
        split at f'
        · rename_i few
          cases f'
          exact ⟨a, xs, rfl, .of at_, few, fin _ _ (.val (.int _))⟩
        · cases f'
    | _ => cases f
  have z := wp_pure1 rule A q1
  rw [B] at z
  exact z
end

/-! ### repr -/
def reprKind : D → Bool
  | .lst _ | .tup _ | .non => true
  | _ => false
def reprOk (d : D) (p : PyData) : Bool := p.showable && !p.hasDict && decide (p.depth ≤ 60) && decide (p.shown.length ≤ sizeLine) && reprKind d
def dRepr (d : D) : Option Cell := (py d).bind fun p => if reprOk d p = true then cv (.str p.shown) else none
end Ov


set_option Elab.async false
set_option linter.all false
set_option maxRecDepth 100000
set_option maxHeartbeats 4000000
namespace Ov
open PySem PySem.Spec PyProof.Rows L2

/-! ### repr of a list, a tuple, None -/
section
variable {X : Cx} {g : Gh}
def rShow (K : PySem.W.Frag) : List V → Hp → VK → Prop := fun xs H Q => ∃ (x : V) (p : PyData), xs = [x] ∧ Dp K H x p ∧ ((∃ a, x = .ref a) ∨ x = .non) ∧ p.showable = true ∧ p.hasDict = false ∧ p.depth ≤ 60 ∧ p.shown.length ≤ sizeLine ∧ Q (.str p.shown) H
theorem call_show {k : Nat} (room : Room k X.A) (gd : X.A.guards = some []) : CallR X (.builtin "repr") (rShow X.K) := by
  intro pins s σ H xs us Q I r h
  obtain ⟨x, p, rfl, dp, kind, sh, nd, few, size, q⟩ := h
  obtain ⟨u, rfl, ru⟩ := vals1 r
  have un := room.un
  rcases kind with ⟨a, rfl⟩ | rfl
  · obtain rfl : u = Value.ref a := ru
    obtain ⟨as, rd⟩ := Dp.reads I p _ _ dp rfl
    exact repr_of_reads' rd sh (fun z => by rw [nd] at z; cases z) gd (by omega) (fun _ _ e => e) (fun h2 t tk keep => ⟨.str p.shown, H, I.kept keep, ⟨t, rfl⟩, q⟩) size
  · obtain rfl : u = Value.none := ru
    cases dp
    exact PySem.P.repr_of_none ⟨.str _, H, I.tok _, ⟨_, rfl⟩, q⟩
theorem pn_repr : PureN g (rShow g.K) (one dRepr) := by
  intro ids H O ds vs c Q l f q
  obtain ⟨d, rfl, f⟩ := one_inv f
  obtain ⟨v, rfl, l1⟩ := looks_one l
  replace f : ((py d).bind fun p => if reprOk d p = true then cv (.str p.shown) else none) = some c := f
  cases ep : py d with
  | none => rw [ep] at f; cases f
  | some p =>
    rw [ep, Option.bind_some] at f
    by_cases ok : reprOk d p = true
    · rw [if_pos ok] at f
      cases f
      simp only [reprOk, Bool.and_eq_true, Bool.not_eq_true', decide_eq_true_eq] at ok
      obtain ⟨⟨⟨⟨sh, nd⟩, few⟩, size⟩, kind⟩ := ok
      refine ⟨v, p, rfl, l1.dp ep, ?_, sh, nd, few, size, q _ _ (.val (.str _))⟩
      cases d with
      | lst ds => obtain ⟨a, _, e, _⟩ := l1; exact .inl ⟨a, e⟩
      | tup ds => obtain ⟨a, _, e, _⟩ := l1; exact .inl ⟨a, e⟩
      | non => exact .inr l1
      | _ => cases kind
    · rw [if_neg ok] at f
      cases f
end

/-! ### isinstance -/
/-- what a datum's class is: a built-in, or an own one -/
inductive Tag where
  | ty (n : String)
  | own (C : Str)
def tagOf : D → Option Tag
  | .non => some (.ty "NoneType")
  | .bl _ => some (.ty "bool")
  | .int _ => some (.ty "int")
  | .str _ => some (.ty "str")
  | .tup _ => some (.ty "tuple")
  | .lst _ => some (.ty "list")
  | .scr _ => some (.ty "list")
  | .ins _ C _ => some (.own C)
  | _ => none
/-- an own class whose instances isinstance can be asked of -/
structure Seen (K : PySem.W.Frag) (c : Addr) : Prop where
  cl : Cls K c
  ha : PySem.W.findIn K (.ref c) "__class__" = some (some (.builtin "object.__class__"))
  hn : PySem.W.specialIn K (.builtin "object.__class__") "__get__" = some (some (.builtin "getset_descriptor.__get__"))
  tk : PySem.W.takesIn K (.builtin "object.__class__") = some true
  me : PySem.W.mroIn K c (.type "object") = some true
/-- test answers isinstance(.., u) -/
structure Isi (g : Gh) (u : Value) (test : Tag → Option Bool) : Prop where
  ty : ∀ n b, test (.ty n) = some b → PySem.W.kitOne g.K (.type n) u = some b
  own : ∀ C b c, test (.own C) = some b → g.mg C = some (.ref c) → Seen g.K c ∧ PySem.W.kitOne g.K (.ref c) u = some b
def dIsi (test : Tag → Option Bool) (d e : D) : Option Cell := match e with
  | .op _ => (tagOf d).bind fun t => (test t).map fun b => ⟨false, .bl b⟩
  | .cls _ => (tagOf d).bind fun t => (test t).map fun b => ⟨false, .bl b⟩
  | _ => none
def dIsiTy (T : String) (test : Tag → Option Bool) (d e : D) : Option Cell := match e with
  | .op (.ty T') => if T' = T then dIsi test d e else none
  | _ => none
def dIsiOwn (C : Str) (test : Tag → Option Bool) (d e : D) : Option Cell := match e with
  | .cls C' => if C' = C then dIsi test d e else none
  | _ => none
section
variable {g : Gh} {ids : List Addr} {H : Hp} {O : Addr → Prop}
theorem tyX_of {u : Value} {test : Tag → Option Bool} (F : Isi g u test) {d : D} {v : V} {t : Tag} {b : Bool} (l : Look g ids H O d v) (ht : tagOf d = some t) (hb : test t = some b) : ∃ tv, TyX g.K H v tv ∧ PySem.W.kitOne g.K tv u = some b := by
  cases d with
  | non => cases ht; cases l; exact ⟨_, .base .non, F.ty _ _ hb⟩
  | bl x => cases ht; cases l; exact ⟨_, .base (.bl _), F.ty _ _ hb⟩
  | int x => cases ht; cases l; exact ⟨_, .base (.int _), F.ty _ _ hb⟩
  | str x => cases ht; cases l; exact ⟨_, .base (.str _), F.ty _ _ hb⟩
  | tup ds => cases ht; obtain ⟨a, xs, rfl, e, _⟩ := l; exact ⟨_, .base (.tup e), F.ty _ _ hb⟩
  | lst ds => cases ht; obtain ⟨a, xs, rfl, e, _⟩ := l; exact ⟨_, .base (.lst e), F.ty _ _ hb⟩
  | scr ns =>
    cases ht
    obtain ⟨a, rfl, e⟩ := l
    rcases e with (e | ⟨o, e⟩) | ⟨o, _, _, e, ec, _⟩
    · exact ⟨_, .base (.lst e), F.ty _ _ hb⟩
    · exact ⟨_, .base (.frz e), F.ty _ _ hb⟩
    · exact ⟨_, .kList e ec, F.ty _ _ hb⟩
  | ins n C fs =>
    cases ht
    obtain ⟨a, c, dx, vs, rfl, _, hC, e, _⟩ := l
    obtain ⟨sn, hk⟩ := F.own C b c hb hC
    exact ⟨_, .base (.ins e sn.cl sn.ha sn.hn sn.tk sn.me), hk⟩
  | _ => cases ht
/-- the class is a built-in type -/
theorem pn_isiTy {T : String} {test : Tag → Option Bool} (F : Isi g (.type T) test) : PureN g (fun xs H Q => ∃ x, xs = [x, .ty T] ∧ rIsi g.K [x, .ty T] H Q) (two (dIsiTy T test)) := by
  intro ids H O ds vs c Q l f q
  obtain ⟨d, e, rfl, f⟩ := two_inv f
  obtain ⟨v, w, rfl, l1, l2⟩ := looks_two l
  replace f : dIsiTy T test d e = some c := f
  unfold dIsiTy at f
  split at f
  · rename_i T'
    split at f
    · rename_i eT
      subst eT
      cases l2
      unfold dIsi at f
      cases ht : tagOf d with
      | none => rw [ht] at f; cases f
      | some t =>
        rw [ht] at f
        simp only [Option.bind_some] at f
        cases hb : test t with
        | none => rw [hb] at f; cases f
        | some b =>
          rw [hb] at f
          cases f
          obtain ⟨tv, ty, kk⟩ := tyX_of F l1 ht hb
          exact ⟨v, rfl, v, _, tv, _, b, rfl, .ty _, ty, kk, q _ _ (.val (.bl _))⟩
    · cases f
  · cases f
/-- .. an own class -/
theorem pn_isiOwn {C : Str} {test : Tag → Option Bool} (F : ∀ c, g.mg C = some (.ref c) → Isi g (.ref c) test) : PureN g (rIsi g.K) (two (dIsiOwn C test)) := by
  intro ids H O ds vs c Q l f q
  obtain ⟨d, e, rfl, f⟩ := two_inv f
  obtain ⟨v, w, rfl, l1, l2⟩ := looks_two l
  replace f : dIsiOwn C test d e = some c := f
  unfold dIsiOwn at f
  split at f
  · rename_i C'
    split at f
    · rename_i eC
      subst eC
      obtain ⟨a, rfl, hC⟩ := l2
      unfold dIsi at f
      cases ht : tagOf d with
      | none => rw [ht] at f; cases f
      | some t =>
        rw [ht] at f
        simp only [Option.bind_some] at f
        cases hb : test t with
        | none => rw [hb] at f; cases f
        | some b =>
          rw [hb] at f
          cases f
          obtain ⟨tv, ty, kk⟩ := tyX_of (F a hC) l1 ht hb
          exact ⟨v, .ref a, tv, .ref a, b, rfl, .own a, ty, kk, q _ _ (.val (.bl _))⟩
    · cases f
  · cases f
end

/-! ### raise, try -/
/-- an own exception class without an own __init__ -/
structure Own (K : PySem.W.Frag) (mg : Str → Option Value) (x : Str) : Prop where
  ex : ∃ (B newId initId : String) (bm : List Value) (c : Addr), ExcBaseFacts B newId initId bm ∧ PySem.W.excIn K c bm newId = true ∧ mg x = some (.ref c) ∧ PySem.W.keepIn K (.ref c) = true ∧
    PySem.W.subIn K (.ref c) (.type "BaseException") = some true ∧ PySem.W.typeIn K (.ref c) = some (.type "type")
def sRaise (C : Str) : SM := fun S => .exc ⟨C, []⟩ S
/-- try: m, except c: suite; catch answers whether c takes an exception of a class -/
def sTry (m : SM) (catch_ : Str → Option Bool) (suite : SM) : SM := fun S => match m S with
  | .exc x S1 => (match catch_ x.C with
    | some true => (match suite S1 with
      | .exc _ _ => .stuck
      | r => r)
    | some false => .exc x S1
    | none => .stuck)
  | r => r
def Catch (g : Gh) (u : Value) (catch_ : Str → Option Bool) : Prop := ∀ C b cls, catch_ C = some b → g.mg C = some cls → PySem.W.exmOne g.K cls u = some b
section
variable {P : Program} {w : World} {K : PySem.W.Frag} {mg : Str → Option Value} {base : Heap} {k : Nat} {X : Cx} {g : Gh} {W : WX} {N : List Str} {sc : Scope} {qr : Bool} {x m : Str} {j : Nat} {p p2 pos pos' np : Pos}
theorem ds_raise (C : Wf qr P w K mg base k N sc X g W) (F : Own K mg x) (hg : sc.names.lookup x = some .globalImplicit) (hdb : (x == ("__debug__" : Str)) = false) : DS X g W (.Raise (some (.Call (.Name x p) [.Constant (.str m) j p2] [] pos)) none pos') (sRaise x) := by
  obtain ⟨B, newId, initId, bm, c, base_, q, gC, kC, sub, ty⟩ := F.ex
  have eK : X.K = K := C.K
  have mk := pmk_own (X := X) (x := x) (m := m) (j := j) (p := p) (p2 := p2) (pos := pos) base_ (by rw [eK]; exact q) (by rw [C.m]; exact gC) (by rw [eK]; exact kC) (raises_own (by rw [eK]; exact sub) (by rw [eK]; exact ty)) (C.gl hg) hdb
  refine ps_imp (ps_raise C.cm C.tk mk) fun D' σ H h => ?_
  obtain ⟨ids, S, Z, r, h⟩ := h
  exact h (.ref c) none σ H ids ⟨r, by rw [C.gm, C.m]; exact gC, .inl ⟨rfl, rfl⟩, .refl⟩
/-- within a try's body -/
theorem Wf.try_ (C : Wf qr P w K mg base k N sc X g W) {W2 : WX} (pn : List (Addr × Obj)) (xe : Value → Shared → Prop) (tk : Takes (X.tr pn xe) W2) (po : PassesOwn (model X.prog X.w) X.A X.env xe) : Wf qr P w K mg base k N sc (X.tr pn xe) g W2 :=
  ⟨C.gK, C.gm, C.P, C.w, C.K, C.m, C.b, C.N, C.kd, C.loc, C.cel, C.fre, C.glb, C.fnc, C.nd, tk, C.rm, C.gd, C.cm, po⟩
theorem ds_try {u : Value} {body suite : List Stmt} {b0 : Stmt} {mb ms : SM} {catch_ : Str → Option Bool} (C : Wf qr P w K mg base k N sc X g W) (hs : X.stack = X.env :: X.outer) (hf : X.env.frame = some X.env.locals) (hc : Names X x u) (ct : Catch g u catch_)
    (hb : ∀ X' W', Wf qr P w K mg base k N sc X' g W' → X'.stack = X'.env :: X'.outer → X'.env.frame = some X'.env.locals → DSs X' g W' body mb) (hsu : ∀ (a : Addr) (pn : List (Addr × Obj)), DSs (X.suite a pn) g W0 (b0 :: suite) ms) :
    DS X g W (.Try body [.ExceptHandler (some (.Name x np)) none (b0 :: suite) pos'] [] [] pos) (sTry mb catch_ ms) := by
  have eK : g.K = X.K := C.gK
  refine ps_imp (ps_try_only (tb := fun W' => tS g W' mb) (ts := fun _ _ _ => tS g W0 ms) hs hf hc C.tk (fun W' pn xe tk po => hb _ W' (C.try_ pn xe tk po) hs hf) fun a oe cls d pn _ _ => hsu a _) fun D' σ H h => ?_
  obtain ⟨ids, S, Z, r, h⟩ := h
  refine ⟨ids, S, Z, r, ?_⟩
  unfold sTry at h
  cases em : mb S with
  | exc ex S1 =>
    rw [em] at h
    dsimp only at h
    intro cls d σ1 H1 ids1 A
    cases ec : catch_ ex.C with
    | none => rw [ec] at h; exact h.elim
    | some b =>
      rw [ec] at h
      refine ⟨b, by rw [← eK]; exact ct _ b cls ec A.cls, fun eb a _ => ?_, fun eb => ?_⟩
      · subst eb
        refine tS_at A.st A.rel ?_
        dsimp only at h
        cases es : ms S1 with
        | exc y S2 => rw [es] at h; exact h.elim
        | _ => rw [es] at h; exact h
      · subst eb
        exact h cls d σ1 H1 ids1 A
  | _ => rw [em] at h; exact h
end
end Ov


set_option Elab.async false
set_option linter.all false
set_option maxRecDepth 100000
set_option maxHeartbeats 4000000
namespace Ov
open PySem PySem.Spec PyProof.Rows L2

/-! ### one argument ahead of others -/
section
variable {g : Gh} {ids ids' : List Addr} {H H' : Hp} {Z : Addr → Prop} {f : Cell} {cs : List Cell} {v : V} {vs : List V} {k : Nat} {a : Addr}
theorem entry_up {i : Nat} {c : Cell} (h : (entry cs 0 k).sl[i]? = some (some c)) : (entry (f :: cs) 0 k).sl[i + 1]? = some (some c) := by
  have h1 : cs[i]? = some c := entry_get.mp h
  exact entry_get.mpr (by rw [List.getElem?_cons_succ]; exact h1)
theorem entry_down {i : Nat} {c : Cell} (h : (entry (f :: cs) 0 k).sl[i + 1]? = some (some c)) : (entry cs 0 k).sl[i]? = some (some c) := by
  have h1 : (f :: cs)[i + 1]? = some c := entry_get.mp h
  rw [List.getElem?_cons_succ] at h1
  exact entry_get.mpr h1
theorem entry_cnt {i k2 : Nat} {c : Cell} (h : (entry cs 0 k).sl[i]? = some (some c)) : (entry cs 0 k2).sl[i]? = some (some c) := entry_get.mpr (entry_get.mp h)
theorem own_cons : OwnA (entry (f :: cs) 0 k) ((v :: vs).map some) a ↔ (f.own = true ∧ v = .ref a) ∨ OwnA (entry cs 0 k) (vs.map some) a := by
  constructor
  · rintro ⟨i, d, h1, h2⟩
    cases i with
    | zero =>
      cases (show some f = some (⟨true, d⟩ : Cell) from entry_get.mp h1)
      cases (show some v = some (V.ref a) from map_get.mp h2)
      exact .inl ⟨rfl, rfl⟩
    | succ i => exact .inr ⟨i, d, entry_down h1, h2⟩
  · rintro (⟨h1, h2⟩ | ⟨i, d, h1, h2⟩)
    · subst h2
      obtain ⟨b, d⟩ := f
      cases (show b = true from h1)
      exact ⟨0, d, entry_get.mpr rfl, rfl⟩
    · exact ⟨i + 1, d, entry_up h1, h2⟩
theorem OA_cons : OA (entry (f :: cs) 0 k) ((v :: vs).map some) Z a ↔ OA (entry cs 0 k) (vs.map some) (ZC Z f v) a := by
  unfold OA ZC
  rw [own_cons, or_assoc]
theorem Rel.tail (r : Rel g ids (entry (f :: cs) 0 k) ((v :: vs).map some) H Z) : Rel g ids (entry cs 0 k) (vs.map some) H (ZC Z f v) := by
  have up : ∀ {i : Nat} {c : Cell}, (entry cs 0 k).sl[i]? = some (some c) → (entry (f :: cs) 0 k).sl[i + 1]? = some (some c) := entry_up
  have upv : ∀ {i : Nat} {u : V}, (vs.map some)[i]? = some (some u) → ((v :: vs).map some)[i + 1]? = some (some u) := fun h => h
  refine ⟨by have h := r.len; simpa [entry] using h, fun i c h => ?_, fun i j di dj a h1 h2 h3 h4 => ?_, fun a ow z => ?_, fun a z => ?_, r.cnt, r.nd, r.idt⟩
  · obtain ⟨u, h1, h2⟩ := r.rep (i + 1) c (up h)
    exact ⟨u, h1, h2.mono (fun _ _ _ _ q => q) .refl (fun a z => .inl (OA_cons.mpr z)) .rfl⟩
  · have := r.inj (i + 1) (j + 1) di dj a (up h1) (up h2) (upv h3) (upv h4)
    omega
  · rcases z with z | ⟨h1, h2⟩
    · exact r.apart a (own_cons.mpr (.inr ow)) z
    · obtain ⟨i, d, h3, h4⟩ := ow
      obtain ⟨b, d0⟩ := f
      cases (show b = true from h1)
      have := r.inj 0 (i + 1) d0 d a (entry_get.mpr rfl) (up h3) (by rw [h2]; rfl) (upv h4)
      omega
  · rcases z with z | z
    · exact r.trk a z
    · exact r.ownTrk (own_cons.mpr (.inl z))
theorem Rel.head (r : Rel g ids (entry (f :: cs) 0 k) ((v :: vs).map some) H Z) : CellRep g ids H (OA (entry cs 0 k) (vs.map some) (ZC Z f v)) f v := by
  obtain ⟨u, h1, h2⟩ := r.rep 0 f (entry_get.mpr rfl)
  have e : v = u := Option.some.inj (map_get.mp h1)
  subst e
  exact h2.mono (fun _ _ _ _ q => q) .refl (fun a z => .inl (OA_cons.mpr z)) .rfl

/-! ### a new instance -/
theorem Rel.newIns {C : Str} {c x dx : Addr} (r : Rel g ids (entry cs 0 k) (vs.map some) H Z) (hC : g.mg C = some (.ref c)) (hx : H x = none) (hd : H dx = none) (ne : dx ≠ x) :
    Rel g (ids ++ [x]) (entry (⟨true, .ins k C []⟩ :: cs) 0 (k + 1)) ((V.ref x :: vs).map some) (upd (upd H dx (.own x)) x (.ins c dx [])) Z := by
  have keep : ∀ b o, H b = some o → (upd (upd H dx (.own x)) x (.ins c dx [])) b = some o := fun b o e => by
    rw [upd_ne (fun z => by rw [z, hx] at e; cases e), upd_ne (fun z => by rw [z, hd] at e; cases e)]
    exact e
  have trk : ∀ b, H b ≠ none → (upd (upd H dx (.own x)) x (.ins c dx [])) b ≠ none := fun b h => upd_trk (upd_trk h)
  have more : Ids ids (ids ++ [x]) := fun n b e => by rw [List.getElem?_append_left (List.getElem?_eq_some_iff.mp e).1]; exact e
  have old : ∀ {b}, OwnA (entry cs 0 (k + 1)) (vs.map some) b → OwnA (entry cs 0 k) (vs.map some) b := fun ⟨i, d, h1, h2⟩ => ⟨i, d, entry_cnt h1, h2⟩
  have gr : Grown H (OA (entry cs 0 k) (vs.map some) Z) (OA (entry (⟨true, .ins k C []⟩ :: cs) 0 (k + 1)) ((V.ref x :: vs).map some) Z) := fun b z => by
    rcases z with z | z
    · exact .inl (.inl z)
    · rcases own_cons.mp z with ⟨_, e⟩ | z
      · cases e; exact .inr hx
      · exact .inl (.inr (old z))
  refine ⟨by have h := r.len; simpa [entry] using h, fun i cell h => ?_, fun i j di dj b h1 h2 h3 h4 => ?_, fun b ow z => ?_, fun b z => trk b (r.trk b z), ?_, ?_, fun b hb => ?_⟩
  · cases i with
    | zero =>
      cases (show some (⟨true, .ins k C []⟩ : Cell) = some cell from entry_get.mp h)
      refine ⟨.ref x, rfl, x, rfl, c, dx, [], ?_, hC, upd_same, rfl, fun i f f' d y e => by simp at e⟩
      rw [List.getElem?_append_right (by rw [r.cnt]; exact Nat.le_refl _)]
      rw [r.cnt]
      show [x][k - k]? = some x
      rw [Nat.sub_self]
      rfl
    | succ i =>
      obtain ⟨u, e1, e2⟩ := r.rep i cell (entry_cnt (entry_down h))
      exact ⟨u, e1, e2.mono (fun _ b o _ q => keep b o q) (fun b o e _ => keep b o e) gr more⟩
  · have tracked : ∀ {i : Nat} {d : D}, (entry (⟨true, .ins k C []⟩ :: cs) 0 (k + 1)).sl[i + 1]? = some (some ⟨true, d⟩) → (vs.map some)[i]? = some (some (V.ref b)) → H b ≠ none := fun q1 q2 => r.ownTrk ⟨_, _, entry_cnt (entry_down q1), q2⟩
    cases i with
    | zero =>
      cases j with
      | zero => rfl
      | succ j =>
        cases (show some (V.ref x) = some (V.ref b) from map_get.mp h3)
        exact absurd hx (tracked h2 h4)
    | succ i =>
      cases j with
      | zero =>
        cases (show some (V.ref x) = some (V.ref b) from map_get.mp h4)
        exact absurd hx (tracked h1 h3)
      | succ j =>
        have := r.inj i j di dj b (entry_cnt (entry_down h1)) (entry_cnt (entry_down h2)) h3 h4
        omega
  · rcases own_cons.mp ow with ⟨_, e⟩ | ow
    · cases e
      exact r.trk _ z hx
    · exact r.apart b (old ow) z
  · rw [List.length_append, r.cnt]
    rfl
  · refine List.nodup_append.mpr ⟨r.nd, by simp, fun b hb y hy e => ?_⟩
    obtain rfl : y = x := by simpa using hy
    subst e
    exact r.idt _ hb hx
  · rcases List.mem_append.mp hb with hb | hb
    · exact trk b (r.idt b hb)
    · obtain rfl : b = x := by simpa using hb
      rw [upd_same]
      simp
/-- C(..) by what its __init__ does to the new instance -/
def newF (C : Str) (F : FM) : FM := fun cs k => match F (⟨true, .ins k C []⟩ :: cs) (k + 1) with
  | .ok ⟨false, .non⟩ (f :: fin) k' => .ok f fin k'
  | .exc x (_ :: fin) k' => .exc x fin k'
  | _ => .stuck
theorem spF_new {C : Str} {c x dx : Addr} {F : FM} {np : Nat} {Q : VK} {E : XK} (hC : g.mg C = some (.ref c)) (hx : H x = none) (hd : H dx = none) (ne : dx ≠ x) (h : spF g np (newF C F) vs H Q E) :
    spF g (np + 1) F (.ref x :: vs) (upd (upd H dx (.own x)) x (.ins c dx [])) (fun v H2 => v = .non ∧ Q (.ref x) H2) E := by
  obtain ⟨len, ids, cs, cnt, Z, hc, r, wp⟩ := h
  refine ⟨by rw [List.length_cons, len], ids ++ [x], ⟨true, .ins cnt C []⟩ :: cs, cnt + 1, Z, by rw [List.length_cons, hc], r.newIns hC hx hd ne, ?_⟩
  have keep : ∀ b o, H b = some o → (upd (upd H dx (.own x)) x (.ins c dx [])) b = some o := fun b o e => by
    rw [upd_ne (fun z => by rw [z, hx] at e; cases e), upd_ne (fun z => by rw [z, hd] at e; cases e)]
    exact e
  have kept : ∀ {H'' : Hp}, Kept (upd (upd H dx (.own x)) x (.ins c dx [])) H'' (OwnA (entry (⟨true, .ins cnt C []⟩ :: cs) 0 0) ((V.ref x :: vs).map some)) → Kept H H'' (OwnA (entry cs 0 0) (vs.map some)) := fun kp b o e n =>
    kp b o (keep b o e) fun z => (own_cons.mp z).elim (fun ⟨_, e'⟩ => by cases e'; rw [hx] at e; cases e) n
  have more : Ids ids (ids ++ [x]) := fun n b e => by rw [List.getElem?_append_left (List.getElem?_eq_some_iff.mp e).1]; exact e
  unfold newF at wp
  cases e : F (⟨true, .ins cnt C []⟩ :: cs) (cnt + 1) with
  | stuck => rw [e] at wp; exact wp
  | ok c0 fin k' =>
    rw [e] at wp
    intro v H2 ids2 B
    obtain ⟨b, d⟩ := c0
    cases fin with
    | nil => have := B.len; simp at this
    | cons f fin =>
      cases b with
      | true => exact wp.elim
      | false =>
        cases d with
        | non =>
          have hv := B.res.sh
          have ez : ZC Z ⟨false, .non⟩ v = Z := ZC.sh
          have rel := B.rel
          rw [ez] at rel
          refine ⟨by cases hv; rfl, wp (.ref x) H2 ids2 ⟨rel.tail, rel.head, fun a h1 h2 => by cases h2; exact hx, by have := B.len; simpa using this, kept B.keep, fun b hb => B.trk b (upd_trk (upd_trk hb)), fun i d h => B.sub (i + 1) d h, more.trans B.ids⟩⟩
        | _ => exact wp.elim
  | exc y fin k' =>
    rw [e] at wp
    intro cls d H2 ids2 B
    cases fin with
    | nil => have := B.len; simp at this
    | cons f fin =>
      have less : ∀ b, OA (entry fin 0 k') (vs.map some) Z b → OA (entry (f :: fin) 0 k') ((V.ref x :: vs).map some) Z b := fun b z => z.elim .inl fun z => .inr (own_cons.mpr (.inr z))
      refine wp cls d H2 ids2 ⟨B.rel.tail.less fun b z => .inl z, B.cls, ?_, by have := B.len; simpa using this, kept B.keep, fun b hb => B.trk b (upd_trk (upd_trk hb)), fun i d h => B.sub (i + 1) d h, more.trans B.ids⟩
      rcases B.pay with z | ⟨p, ws, h1, h2, h3, h4⟩
      · exact .inl z
      · exact .inr ⟨p, ws, h1, h2, fun z => h3 (less p z), h4.mono .refl (fun b z => .inl (less b z)) .rfl⟩
end
end Ov


set_option Elab.async false
set_option linter.all false
set_option maxRecDepth 100000
set_option maxHeartbeats 4000000
namespace Ov
open PySem PySem.Spec PyProof.Rows L2

/-! ### what can be called by positional values, and does F -/
def FnD (qr : Bool) (P : Program) (w : World) (K : PySem.W.Frag) (mg : Str → Option Value) (base : Heap) (k : Nat) (f : Addr) (g : Gh) (F : FM) : Prop :=
  ∀ (A : Around) (outer : List Env) (s : Shared) (H : Hp) (us : List Value) (vs : List V) (Q : VK) (E : XK), Room k A → (qr = true → A.guards = some []) → Env0 P w K mg base A outer s H → Vals vs us → spF g vs.length F vs H Q E →
    codeAny (model P w) A (.call (.ref f) ⟨us, []⟩) (CR (L2.CX P w) outer P w H s Q E) s
section
variable {P : Program} {w : World} {K : PySem.W.Frag} {mg : Str → Option Value} {base : Heap} {k k' : Nat} {f : Addr} {g : Gh} {F : FM} {qr qr' : Bool}
theorem FnD.mono (D : FnD qr P w K mg base k f g F) (hq : qr = true → qr' = true) (h : k ≤ k') : FnD qr' P w K mg base k' f g F := fun A outer s H us vs Q E hr hg => D A outer s H us vs Q E (hr.mono h) fun z => hg (hq z)
/-- a body that takes np arguments does nothing else -/
theorem spF_len {np n : Nat} {m : SM} {n2 : Nat} {vs : List V} {H : Hp} {Q : VK} {E : XK} (h : spF g n2 (bodyF np n m) vs H Q E) : n2 = np := by
  obtain ⟨_, ids, cs, cnt, Z, hc, _, wp⟩ := h
  unfold bodyF at wp
  by_cases e : cs.length = np
  · exact hc.symm.trans e
  · rw [if_neg e] at wp
    exact wp.elim
theorem fnD_of {fd : FuncData} {ps : List Str} {np n : Nat} {m : SM} (G : FnG qr P w K mg base k f fd ps (spF g np (bodyF np n m))) (hb : Binds K fd ps []) : FnD qr P w K mg base k f g (bodyF np n m) := by
  intro A outer s H us vs Q E hr hg e0 r h
  have e := spF_len h
  rw [e] at h
  have lu : us.length = ps.length := by rw [← r.length]; exact G.len _ _ _ _ h
  have b := hb s us (e0.mod.kin.keeps fun b o e => (e0.bs b o e).1) (by rw [List.append_nil]; exact lu)
  rw [List.append_nil] at b
  exact G.run A outer s H ⟨us, []⟩ us vs Q E hr hg e0 b r h
variable {X : Cx} {W : WX} {N : List Str} {sc : Scope} {pins : List (Addr × Obj)} {σ : L2.St} {H : Hp} {s : Shared} {Q : VK} {us : List Value} {vs : List V}
/-- a callee's end, seen from the caller -/
theorem run_code (C : Wf qr P w K mg base k N sc X g W) (D : FnD qr' P w K mg base k' f g F) (hq : qr' = true → qr = true) (hk : k' ≤ k) (I : Inv X pins σ H s) (r : Vals vs us) (h : spF g vs.length F vs H Q (WE W σ)) :
    codeAny (model X.prog X.w) X.A (.call (.ref f) ⟨us, []⟩) (fun r s' => match r with | .ok (.ret v) => EP X pins σ Q v s' | .ok _ => False | .error e => X.xe e s') s := by
  have D2 : FnD qr X.prog X.w X.K X.mg X.base k f g F := by rw [C.P, C.w, C.K, C.m, C.b]; exact D.mono hq hk
  refine codeAny_mono (D2 X.A X.stack s H us vs Q (WE W σ) C.rm C.gd I.env0 r h) fun r2 s2 z => ?_
  match r2, z with
  | .error e, z => exact passAt C.tk σ pins H s e s2 I z
  | .ok (.ret u), z => exact I.after z
theorem run_callD (C : Wf qr P w K mg base k N sc X g W) (D : FnD qr' P w K mg base k' f g F) (hq : qr' = true → qr = true) (hk : k' ≤ k) (I : Inv X pins σ H s) (r : Vals vs us) (h : spF g vs.length F vs H Q (WE W σ)) :
    wpAny (model X.prog X.w) X.A (call (.ref f) us) (EP X pins σ Q) X.xe s := wpAny_call (run_code C D hq hk I r h)
/-- C(..): __init__ runs on the new instance -/
theorem run_newD {c : Addr} {x : Str} (C : Wf qr P w K mg base k N sc X g W) (Mc : Mk K c f) (hC : mg x = some (.ref c)) (D : FnD false P w K mg base k' f g F) (hk : k' + 1 ≤ k) (I : Inv X pins σ H s) (r : Vals vs us) (h : spF g vs.length (newF x F) vs H Q (WE W σ)) :
    wpAny (model X.prog X.w) X.A (call (.ref c) us) (EP X pins σ Q) X.xe s := by
  have D2 : FnD false X.prog X.w X.K X.mg X.base k' f g F := by rw [C.P, C.w, C.K, C.m, C.b]; exact D
  have M2 : Mk X.K c f := by rw [C.K]; exact Mc
  have gm : g.mg x = some (.ref c) := by rw [C.gm, C.m]; exact hC
  have I2 := Inv.made (C := c) I
  have z := spF_new gm (I.hok.fresh (Nat.le_succ _)) (I.hok.fresh (Nat.le_refl _)) (Nat.ne_of_lt (Nat.lt_succ_self _)) h
  have room : Room k' (X.A.under (.builtin "type.__call__" ⟨.ref c :: us, []⟩)) := (C.rm.mono hk).make c us []
  refine wpAny_call (make_map (f := f) I.kIn M2.makes M2.init (beq_iff_eq.mp M2.fn) (codeAny_mono (D2 _ X.stack _ _ (.ref (s.heap.objs.size + 1) :: us) (V.ref (s.heap.objs.size + 1) :: vs) _ (WE W σ) room (fun z => nomatch z) (I2.env0.make c us []) (.cons rfl r) z) fun r2 s2 y => ?_))
  match r2, y with
  | .error e, y => exact passAt C.tk σ pins _ _ e s2 I2 y
  | .ok (.ret u), y =>
    obtain ⟨v, H3, I3, rv, ev, q⟩ := I2.after y
    subst ev
    exact ⟨rv, .ref (s.heap.objs.size + 1), H3, I3, rfl, q⟩
end

/-! ### calls -/
/-- from the operands to the promise -/
theorem wp_callD {g : Gh} {W : WX} {ids ids1 : List Addr} {S S1 : Sta} {σ : L2.St} {H H1 : Hp} {Z : Addr → Prop} {os : List Opn} {vs : List V} {F : FM} {Q : VK} (A : Aft g ids S σ H Z os vs ids1 S1 H1) (r : Rel g ids S σ H Z) (h : Wp g W ids S σ H Z Q (callM F os S1)) :
    spF g vs.length F vs H1 Q (WE W σ) := wp_call A r A.len.symm h
section
variable {P : Program} {w : World} {K : PySem.W.Frag} {mg : Str → Option Value} {base : Heap} {k k' : Nat} {f : Addr} {g : Gh} {F : FM} {qr qr' : Bool} {X : Cx} {W : WX} {N : List Str} {sc : Scope} {x : Str} {p pos apos : Pos} {e o : Expr} {es : List Expr} {ms : M (List Opn)} {mo : M Opn}
theorem args_read {σ : L2.St} {H : Hp} {Q : VK} {G : FM} (q : tD g W (M.bind ms (callM G)) σ H Q) : tDs g W ms σ H fun vs H1 => spF g vs.length G vs H1 Q (WE W σ) := by
  obtain ⟨ids, S, Z, r, q⟩ := tD_wp.mp q
  refine tDs_wp.mpr ⟨ids, S, Z, r, ?_⟩
  unfold M.bind at q
  cases e1 : ms S with
  | stuck => rw [e1] at q; exact q
  | exc x S1 => rw [e1] at q; exact q
  | ok os S1 =>
    rw [e1] at q
    exact fun vs H1 ids1 A => wp_callD A r q
/-- f(e, ..) -/
theorem de_callD (C : Wf qr P w K mg base k N sc X g W) (D : FnD qr' P w K mg base k' f g F) (hq : qr' = true → qr = true) (hk : k' ≤ k) (hm : mg x = some (.ref f)) (kp : PySem.W.keepIn K (.ref f) = true) (hg : sc.names.lookup x = some .globalImplicit) (ha : DA X g W (e :: es) ms)
    (hdb : (x == ("__debug__" : Str)) = false) (he : starEach (e :: es) X.env = (false, eval e X.env) :: starEach es X.env) (hpl : (backTo pos (starEach es X.env)).any (·.1) = false) : DE X g W (.Call (.Name x p) (e :: es) [] pos) (M.bind ms (callM F)) := by
  constructor
  intro pins s σ H Q I q
  refine wpAny_Call_Name_kw (ld_glob I (C.gl hg) (by rw [C.m]; exact hm) ?_ hdb)
  exact PySem.W.callWith_K (h₀ := X.base) I.ok.mod.kin (by rw [C.K]; exact kp) (thn (ha.run pos pins s σ H _ I (args_read q)) fun us s1 ⟨vs, H1, I1, r, q1⟩ => ⟨I1.kIn, run_callD C D hq hk I1 r q1⟩) he hpl
/-- C(e, ..) -/
theorem de_newD {c : Addr} (C : Wf qr P w K mg base k N sc X g W) (Mc : Mk K c f) (D : FnD false P w K mg base k' f g F) (hk : k' + 1 ≤ k) (hm : mg x = some (.ref c)) (hg : sc.names.lookup x = some .globalImplicit) (ha : DA X g W (e :: es) ms)
    (hdb : (x == ("__debug__" : Str)) = false) (he : starEach (e :: es) X.env = (false, eval e X.env) :: starEach es X.env) (hpl : (backTo pos (starEach es X.env)).any (·.1) = false) : DE X g W (.Call (.Name x p) (e :: es) [] pos) (M.bind ms (callM (newF x F))) := by
  constructor
  intro pins s σ H Q I q
  refine wpAny_Call_Name_kw (ld_glob I (C.gl hg) (by rw [C.m]; exact hm) ?_ hdb)
  exact PySem.W.callWith_K (h₀ := X.base) I.ok.mod.kin (by rw [C.K]; exact Mc.kp) (thn (ha.run pos pins s σ H _ I (args_read q)) fun us s1 ⟨vs, H1, I1, r, q1⟩ => ⟨I1.kIn, run_newD C Mc hm D hk I1 r q1⟩) he hpl
/-! ### C(*e) -/
theorem Aft.items {ids ids1 : List Addr} {S S1 : Sta} {σ : L2.St} {H H1 : Hp} {Z : Addr → Prop} {os : List Opn} {vs xs : List V} {ds : List D} (A : Aft g ids S σ H Z os vs ids1 S1 H1) (rep : RepL g ids1 H1 (OA S1 σ Z) ds xs) : Aft g ids S σ H Z (ds.map fun d => .v ⟨false, d⟩) xs ids1 S1 H1 := by
  have shared : ∀ {i : Nat} {d : D}, (ds.map fun d => Opn.v ⟨false, d⟩)[i]? ≠ some (.v ⟨true, d⟩) := fun {i d} z => by
    rw [List.getElem?_map] at z
    cases e : ds[i]? with
    | none => rw [e] at z; cases z
    | some d' => rw [e] at z; cases z
  have ez : ZL Z (ds.map fun d => Opn.v ⟨false, d⟩) xs = Z := by
    funext b
    exact propext ⟨fun z => z.elim id fun ⟨i, d, h, _⟩ => (shared h).elim, .inl⟩
  refine ⟨by rw [ez]; exact A.rel.less fun b z => .inl z, by rw [rep.1, List.length_map], fun i o v h1 h2 => ?_, fun i d a h => (shared h).elim, fun i j d e a h => (shared h).elim, A.keep, A.trk, A.sub, A.bnd, A.ids, A.pin⟩
  rw [ez]
  rw [List.getElem?_map] at h1
  cases e : ds[i]? with
  | none => rw [e] at h1; cases h1
  | some d =>
    rw [e] at h1
    cases h1
    exact rep.2 i d v e h2
/-- the items of a list, as arguments -/
def spread (o : Opn) : M (List Opn) := fun S => match curD S o with
  | some (.lst ds) => .ok (ds.map fun d => .v ⟨false, d⟩) S
  | some (.tup ds) => .ok (ds.map fun d => .v ⟨false, d⟩) S
  | _ => .stuck
theorem de_newS {c : Addr} {sp_ : Pos} (C : Wf qr P w K mg base k N sc X g W) (Mc : Mk K c f) (D : FnD false P w K mg base k' f g F) (hk : k' + 1 ≤ k) (hm : mg x = some (.ref c)) (hg : sc.names.lookup x = some .globalImplicit) (he : DE X g W e mo)
    (hdb : (x == ("__debug__" : Str)) = false) (hst : starEach [.Starred e sp_] X.env = [(true, eval e X.env)]) : DE X g W (.Call (.Name x p) [.Starred e sp_] [] pos) (M.bind mo fun o => M.bind (spread o) (callM (newF x F))) := by
  constructor
  intro pins s σ H Q I q
  refine wpAny_Call_Name_kw (ld_glob I (C.gl hg) (by rw [C.m]; exact hm) ?_ hdb)
  have q2 : tD g W mo σ H fun y H1 => ∃ a xs, y = V.ref a ∧ (SqT X.K H1 a xs ∨ SqL X.K H1 a xs) ∧ spF g xs.length (newF x F) xs H1 Q (WE W σ) := by
    obtain ⟨ids, S, Z, r, q⟩ := tD_wp.mp q
    refine tD_first r q fun o v S1 H1 ids1 A q1 => ?_
    unfold spread M.bind at q1
    dsimp only at q1
    cases e2 : curD S1 o with
    | none => rw [e2] at q1; exact q1.elim
    | some d =>
      rw [e2] at q1
      have l := A.look (i := 0) rfl rfl e2
      cases d with
      | lst ds =>
        obtain ⟨a, xs, rfl, h, rep⟩ := l
        exact ⟨a, xs, rfl, .inr (.of h), wp_callD (A.items rep) r q1⟩
      | tup ds =>
        obtain ⟨a, xs, rfl, h, rep⟩ := l
        exact ⟨a, xs, rfl, .inl (.of h), wp_callD (A.items rep) r q1⟩
      | _ => exact q1.elim
  refine PySem.W.callWith_S (h₀ := X.base) I.ok.mod.kin (by rw [C.K]; exact Mc.kp) (thn (he.run pins s σ H _ I q2) fun v s1 ⟨y, H1, I1, ry, a, xs, ey, sq, q3⟩ => ?_) hst
  subst ey
  obtain rfl : v = Value.ref a := ry
  exact StX.star_any I1 sq fun us s2 I2 rv => ⟨I2.kIn, run_newD C Mc hm D hk I2 rv q3⟩
end
end Ov


set_option Elab.async false
set_option linter.all false
set_option maxRecDepth 100000
set_option maxHeartbeats 4000000
namespace Ov
open PySem PySem.Spec PyProof.Rows L2

/-! ### def f(a, *rest) -/
def starF (F : FM) : FM := fun cs k => match cs with
  | c0 :: rest => if (rest.all fun c => !c.own) = true ∧ rest.length ≤ sizeLine then (match F [c0, ⟨false, .tup (rest.map (·.d))⟩] k with
    | .ok c (f0 :: _) k' => .ok c (f0 :: rest) k'
    | .exc x (f0 :: _) k' => .exc x (f0 :: rest) k'
    | _ => .stuck) else .stuck
  | [] => .stuck
section
variable {g : Gh} {ids ids' : List Addr} {H H' : Hp} {Z : Addr → Prop} {f f0 c0 : Cell} {cs rest : List Cell} {v v0 : V} {vs xs : List V} {k k' : Nat} {a : Addr}
theorem own_none (h : ∀ c ∈ cs, c.own = false) : ¬ OwnA (entry cs 0 k) (vs.map some) a := by
  rintro ⟨i, d, h1, _⟩
  have z := h _ (List.mem_of_getElem? (entry_get.mp h1))
  cases z
/-- the owned things are the first argument's alone -/
theorem own_first (h : ∀ c ∈ rest, c.own = false) : OwnA (entry (f :: rest) 0 k) ((v :: xs).map some) a ↔ (f.own = true ∧ v = .ref a) := by
  rw [own_cons]
  exact ⟨fun z => z.elim id fun z => (own_none h z).elim, .inl⟩
theorem star_in {p : Addr} (sh : ∀ c ∈ rest, c.own = false) (r : Rel g ids (entry (c0 :: rest) 0 k) ((v0 :: xs).map some) H Z) (hp : H p = none) (hl : xs.length = rest.length) :
    Rel g ids (entry [c0, ⟨false, .tup (rest.map (·.d))⟩] 0 k) ([v0, V.ref p].map some) (upd H p (.tup xs)) Z := by
  have one : ∀ c ∈ [(⟨false, .tup (rest.map (·.d))⟩ : Cell)], c.own = false := fun c h => by
    obtain rfl : c = _ := List.mem_singleton.mp h
    rfl
  have same : ∀ {b}, OA (entry [c0, ⟨false, .tup (rest.map (·.d))⟩] 0 k) ([v0, V.ref p].map some) Z b → OA (entry (c0 :: rest) 0 k) ((v0 :: xs).map some) Z b := fun z => z.elim .inl fun z => .inr ((own_first sh).mpr ((own_first one).mp z))
  have np : ¬ OA (entry (c0 :: rest) 0 k) ((v0 :: xs).map some) Z p := fun z => r.oTrk p z hp
  refine ⟨rfl, fun i c h => ?_, fun i j di dj b h1 h2 _ _ => ?_, fun b ow z => r.apart b ((own_first sh).mpr ((own_first one).mp ow)) z, fun b z => upd_trk (r.trk b z), r.cnt, r.nd, fun b hb => upd_trk (r.idt b hb)⟩
  · match i, h with
    | 0, h =>
      cases (show some c0 = some c from entry_get.mp h)
      obtain ⟨u, e1, e2⟩ := r.rep 0 c0 (entry_get.mpr rfl)
      exact ⟨u, e1, e2.mono (fun _ b o _ q => upd_kept hp (O := fun _ => False) b o q id) (upd_kept hp) (fun b z => .inl (same z)) .rfl⟩
    | 1, h =>
      cases (show some (⟨false, .tup (rest.map (·.d))⟩ : Cell) = some c from entry_get.mp h)
      refine ⟨.ref p, rfl, ?_⟩
      show Rep g ids _ _ (.tup (rest.map (·.d))) (.ref p)
      refine .tup upd_same (fun z => np (same z)) (by rw [hl, List.length_map]) fun i d y h1 h2 => ?_
      rw [List.getElem?_map] at h1
      cases e : rest[i]? with
      | none => rw [e] at h1; cases h1
      | some c =>
        rw [e] at h1
        cases h1
        obtain ⟨u, e1, e2⟩ := r.rep (i + 1) c (entry_up (entry_get.mpr e))
        have eu : y = u := by
          have z : (xs.map some)[i]? = some (some u) := e1
          rw [map_get.mp z] at h2
          exact (Option.some.inj h2).symm
        subst eu
        have so := sh c (List.mem_of_getElem? e)
        obtain ⟨b, d⟩ := c
        cases (show b = false from so)
        exact e2.sh.mono (upd_kept hp) (fun b z => .inl (same z)) .rfl
    | i + 2, h =>
      have z := entry_get.mp h
      simp at z
  · match i, j, h1, h2 with
    | 0, 0, _, _ => rfl
    | 1, _, h1, _ => have z := entry_get.mp h1; cases z
    | 0, 1, _, h2 => have z := entry_get.mp h2; cases z
    | i + 2, _, h1, _ => have z := entry_get.mp h1; simp at z
    | 0, j + 2, _, h2 => have z := entry_get.mp h2; simp at z
/-- the other arguments stand as they stood -/
theorem star_out {Z' : Addr → Prop} {fs : List Cell} {ws : List V} {c1 : Cell} {v1 : V} (sh : ∀ c ∈ rest, c.own = false) (r : Rel g ids (entry (c0 :: rest) 0 k) ((v0 :: xs).map some) H Z) (r2 : Rel g ids' (entry [f0, c1] 0 k') ([v0, v1].map some) H' Z') (s1 : c1.own = false)
    (kp : Kept H H' (OwnA (entry (c0 :: rest) 0 0) ((v0 :: xs).map some))) (more : Ids ids ids') (sub : f0.own = true → c0.own = true) (zz : ∀ b, Z' b → Z b ∨ H b = none) :
    Rel g ids' (entry (f0 :: rest) 0 k') ((v0 :: xs).map some) H' Z' := by
  have one : ∀ c ∈ [c1], c.own = false := fun c h => by
    obtain rfl : c = c1 := List.mem_singleton.mp h
    exact s1
  have same : ∀ {b}, OA (entry (f0 :: rest) 0 k') ((v0 :: xs).map some) Z' b → OA (entry [f0, c1] 0 k') ([v0, v1].map some) Z' b := fun z => z.elim .inl fun z => .inr ((own_first one).mpr ((own_first sh).mp z))
  refine ⟨by have h := r.len; simpa [entry] using h, fun i c h => ?_, fun i j di dj b h1 h2 h3 h4 => ?_, fun b ow z => r2.apart b ((own_first one).mpr ((own_first sh).mp ow)) z, r2.trk, r2.cnt, r2.nd, r2.idt⟩
  · cases i with
    | zero =>
      cases (show some f0 = some c from entry_get.mp h)
      obtain ⟨u, e1, e2⟩ := r2.rep 0 f0 (entry_get.mpr rfl)
      exact ⟨u, e1, e2.mono (fun _ _ _ _ q => q) .refl (fun b z => .inl (same z)) .rfl⟩
    | succ i =>
      have hc : rest[i]? = some c := entry_get.mp (entry_down h)
      obtain ⟨u, e1, e2⟩ := r.rep (i + 1) c (entry_up (entry_get.mpr hc))
      have so := sh c (List.mem_of_getElem? hc)
      obtain ⟨b, d⟩ := c
      cases (show b = false from so)
      refine ⟨u, e1, ?_⟩
      refine e2.mono (fun z => nomatch z) (fun b o e n => kp b o e fun z => n (.inr ((own_first sh).mpr ((own_first sh).mp z)))) (fun b z => ?_) more
      rcases z with z | z
      · exact (zz b z).imp .inl id
      · obtain ⟨h1, h2⟩ := (own_first sh).mp z
        exact .inl (.inr ((own_first sh).mpr ⟨sub h1, h2⟩))
  · have none_ : ∀ {i : Nat} {d : D}, (entry (f0 :: rest) 0 k').sl[i + 1]? = some (some ⟨true, d⟩) → False := fun h => by
      have z := sh _ (List.mem_of_getElem? (entry_get.mp (entry_down h)))
      cases z
    cases i with
    | zero =>
      cases j with
      | zero => rfl
      | succ j => exact (none_ h2).elim
    | succ i => exact (none_ h1).elim
theorem spF_star {F : FM} {Q : VK} {E : XK} (h : spF g vs.length (starF F) vs H Q E) : ∃ ws rest, vs = ws ++ rest ∧ ws.length = 1 ∧ rest.length ≤ sizeLine ∧ ∀ p, H p = none → spF g 2 F (ws ++ [.ref p]) (upd H p (.tup rest)) Q E := by
  obtain ⟨_, ids, cs, cnt, Z, hc, r, wp⟩ := h
  unfold starF at wp
  cases cs with
  | nil => exact wp.elim
  | cons c0 rest =>
    cases vs with
    | nil => cases hc
    | cons v0 xs =>
      dsimp only at wp
      by_cases ok : (rest.all fun c => !c.own) = true ∧ rest.length ≤ sizeLine
      case neg => rw [if_neg ok] at wp; exact wp.elim
      rw [if_pos ok] at wp
      have hl : xs.length = rest.length := by simpa using hc.symm
      have sh : ∀ c ∈ rest, c.own = false := fun c h => by
        have z := List.all_eq_true.mp ok.1 c h
        simpa using z
      refine ⟨[v0], xs, rfl, rfl, by rw [hl]; exact ok.2, fun p hp => ⟨rfl, ids, [c0, ⟨false, .tup (rest.map (·.d))⟩], cnt, Z, rfl, star_in sh r hp hl, ?_⟩⟩
      have one : ∀ c ∈ [(⟨false, .tup (rest.map (·.d))⟩ : Cell)], c.own = false := fun c h => by
        obtain rfl : c = _ := List.mem_singleton.mp h
        rfl
      have keep : ∀ {H2 : Hp}, Kept (upd H p (.tup xs)) H2 (OwnA (entry [c0, ⟨false, .tup (rest.map (·.d))⟩] 0 0) ([v0, V.ref p].map some)) → Kept H H2 (OwnA (entry (c0 :: rest) 0 0) ((v0 :: xs).map some)) := fun kp b o e n =>
        kp b o (upd_kept hp (O := fun _ => False) b o e id) fun z => n ((own_first sh).mpr ((own_first one).mp z))
      have shape : ∀ {fin : List Cell}, fin.length = 2 → ∃ f0 f1, fin = [f0, f1] := fun {fin} h => by
        match fin, h with
        | [a, b], _ => exact ⟨a, b, rfl⟩
      have second : ∀ {f0 f1 : Cell}, (∀ (i : Nat) (d : D), [f0, f1][i]? = some ⟨true, d⟩ → ∃ d0, [c0, (⟨false, .tup (rest.map (·.d))⟩ : Cell)][i]? = some ⟨true, d0⟩) → f1.own = false ∧ (f0.own = true → c0.own = true) := fun {f0 f1} sub => by
        refine ⟨?_, fun e => ?_⟩
        · obtain ⟨b, d⟩ := f1
          cases b with
          | false => rfl
          | true =>
            obtain ⟨d0, z⟩ := sub 1 d rfl
            cases z
        · obtain ⟨b, d⟩ := f0
          cases (show b = true from e)
          obtain ⟨d0, z⟩ := sub 0 d rfl
          cases (show some c0 = some (⟨true, d0⟩ : Cell) from z)
          rfl
      have subs : ∀ {f0 : Cell}, (f0.own = true → c0.own = true) → ∀ (i : Nat) (d : D), (f0 :: rest)[i]? = some ⟨true, d⟩ → ∃ d0, (c0 :: rest)[i]? = some ⟨true, d0⟩ := fun {f0} h i d z => by
        cases i with
        | zero =>
          cases (show some f0 = some (⟨true, d⟩ : Cell) from z)
          obtain ⟨b, d0⟩ := c0
          cases (show b = true from h rfl)
          exact ⟨d0, rfl⟩
        | succ i => exact ⟨d, z⟩
      cases e : F [c0, ⟨false, .tup (rest.map (·.d))⟩] cnt with
      | stuck => rw [e] at wp; exact wp
      | ok c fin k' =>
        rw [e] at wp
        intro v H2 ids2 B
        obtain ⟨f0, f1, rfl⟩ := shape (fin := fin) (by rw [B.len]; rfl)
        obtain ⟨s1, s0⟩ := second B.sub
        have new2 : ∀ b, c.own = true → v = .ref b → H b = none := fun b h1 h2 => none_back (fun b h => upd_trk h) (B.new b h1 h2)
        have zz : ∀ b, ZC Z c v b → Z b ∨ H b = none := fun b z => z.imp id fun ⟨h1, h2⟩ => new2 b h1 h2
        have rel := star_out (fs := []) (ws := []) sh r B.rel s1 (keep B.keep) B.ids s0 zz
        refine wp v H2 ids2 ⟨rel, B.res.mono (fun _ _ _ _ q => q) .refl (fun b z => .inl ?_) .rfl, new2, rfl, keep B.keep, fun b h => B.trk b (upd_trk h), subs s0, B.ids⟩
        have one2 : ∀ c ∈ [f1], c.own = false := fun c h => by
          obtain rfl : c = f1 := List.mem_singleton.mp h
          exact s1
        exact z.elim .inl fun z => .inr ((own_first one2).mpr ((own_first sh).mp z))
      | exc x fin k' =>
        rw [e] at wp
        intro cls d H2 ids2 B
        obtain ⟨f0, f1, rfl⟩ := shape (fin := fin) (by rw [B.len]; rfl)
        obtain ⟨s1, s0⟩ := second B.sub
        have rel := star_out (fs := []) (ws := []) sh r B.rel s1 (keep B.keep) B.ids s0 fun b z => .inl z
        have one2 : ∀ c ∈ [f1], c.own = false := fun c h => by
          obtain rfl : c = f1 := List.mem_singleton.mp h
          exact s1
        have back : ∀ b, OA (entry (f0 :: rest) 0 k') ((v0 :: xs).map some) Z b → OA (entry [f0, f1] 0 k') ([v0, V.ref p].map some) Z b := fun b z => z.elim .inl fun z => .inr ((own_first one2).mpr ((own_first sh).mp z))
        refine wp cls d H2 ids2 ⟨rel, B.cls, ?_, rfl, keep B.keep, fun b h => B.trk b (upd_trk h), subs s0, B.ids⟩
        rcases B.pay with z | ⟨p, ws, h1, h2, h3, h4⟩
        · exact .inl z
        · exact .inr ⟨p, ws, h1, h2, fun z => h3 (back p z), h4.mono .refl (fun b z => .inl (back b z)) .rfl⟩
end
section
variable {P : Program} {w : World} {K : PySem.W.Frag} {mg : Str → Option Value} {base : Heap} {k : Nat}
/-- a def f(a, *rest) by its body -/
theorem fnD_star {x qual pa pv : Str} {st : Stmt} {f : Addr} {fd : FuncData} {N : List Str} {g : Gh} {n : Nat} {m : SM} (F : Fun K x qual st f fd) (S : FnScope N [pa, pv] (defScope st)) (hg : g = ⟨K, mg⟩) (hN : N.length = 2 + n)
    (hb : ∀ (kV doc pm : Value) (an : Option Addr) (cdv ct : Value) (us rest : List Value), us.length = [pa].length → bindArgs (PySem.W.fnOf x qual (defArgs st) (defBody st) (defScope st) .none kV doc pm an cdv ct) ⟨us ++ rest, []⟩ = (newTuple rest >>= fun t => pure ([pa].zip us ++ [(pv, t)])))
    (hbody : ∀ (X : Cx) (W : WX), Wf false P w K mg base k N (defScope st) X g W → X.stack = X.env :: X.outer → X.env.frame = some X.env.locals → DSs X g W (defBody st) m) : FnD false P w K mg base (k + 1) f g (starF (bodyF 2 n m)) := by
  obtain ⟨oc, od, kV, doc, pm, an, cdv, ct, osl, rfl, lk, hcd⟩ := F.ex
  have R := StX.fn_star (P := P) (w := w) (mg := mg) (base := base) (k := k) (CX := L2.CX P w) (ps := [pa]) (sp := spF g 2 (bodyF 2 n m)) lk hcd S StX.cxUp (hb kV doc pm an cdv ct) fun A outer s H vs Q E room h => by
    refine ⟨tS g (fun cls d _ H => E cls d H) m, ?_, ?_⟩
    · refine hbody _ _ ?_ rfl rfl
      subst hg
      exact ⟨rfl, rfl, rfl, rfl, rfl, rfl, rfl, rfl, S.kind, fun _ h => h, fun _ h => h, fun _ h => .inr h, fun _ h => h, fun _ _ => rfl, S.nd, takes_of rfl rfl rfl rfl, room, fun z => (nomatch z), rfl, passes_of rfl⟩
    · obtain ⟨hv, ids, cs, cnt, Z, hc, rl, wp⟩ := h
      exact wpF_of (n := n) (N := N) hN hv hc rl wp
  exact fun A outer s H us vs Q E hr _ e0 r h => R A outer s H us vs Q E hr e0 r (spF_star h)
end
end Ov


set_option Elab.async false
set_option linter.all false
set_option maxRecDepth 100000
set_option maxHeartbeats 4000000
namespace Ov
open PySem PySem.Spec PyProof.Rows L2

/-! ### attributes -/
section
variable {g : Gh} {ids : List Addr} {H : Hp} {O : Addr → Prop}
theorem repF_lookup {f : Str} {d : D} : ∀ {fs : List (Str × D)} {vs : List (Str × V)}, RepF g ids H O fs vs → fs.lookup f = some d → ∃ v, vs.lookup f = some v ∧ Rep g ids H O d v
  | [], _, _, h => by simp at h
  | (n, e) :: fs, [], r, _ => by have z := r.1; simp at z
  | (n, e) :: fs, (n2, v) :: vs, r, h => by
    have z := r.1
    simp only [List.map_cons, List.cons.injEq] at z
    obtain ⟨rfl, z⟩ := z
    rw [List.lookup_cons] at h ⊢
    cases hn : f == n2 with
    | true =>
      rw [hn] at h
      cases h
      exact ⟨v, rfl, r.2 0 n2 n2 d v rfl rfl⟩
    | false =>
      rw [hn] at h
      exact repF_lookup ⟨z, fun i f f' d x h1 h2 => r.2 (i + 1) f f' d x h1 h2⟩ h
theorem repF_lookup_none {f : Str} : ∀ {fs : List (Str × D)} {vs : List (Str × V)}, RepF g ids H O fs vs → fs.lookup f = none → vs.lookup f = none
  | [], [], _, _ => rfl
  | [], _ :: _, r, _ => by have z := r.1; simp at z
  | _ :: _, [], r, _ => by have z := r.1; simp at z
  | (n, e) :: fs, (n2, v) :: vs, r, h => by
    have z := r.1
    simp only [List.map_cons, List.cons.injEq] at z
    obtain ⟨rfl, z⟩ := z
    rw [List.lookup_cons] at h ⊢
    cases hn : f == n2 with
    | true => rw [hn] at h; cases h
    | false =>
      rw [hn] at h
      exact repF_lookup_none ⟨z, fun i f f' d x h1 h2 => r.2 (i + 1) f f' d x h1 h2⟩ h
def putD (f : Str) (d : D) : List (Str × D) → List (Str × D)
  | [] => [(f, d)]
  | (n, e) :: r => if n = f then (n, d) :: r else (n, e) :: putD f d r
theorem repF_cons {n : Str} {d : D} {v : V} {fs : List (Str × D)} {vs : List (Str × V)} (r : RepF g ids H O fs vs) (k : Rep g ids H O d v) : RepF g ids H O ((n, d) :: fs) ((n, v) :: vs) := by
  refine ⟨by simp [r.1], fun i f f' e x h1 h2 => ?_⟩
  cases i with
  | zero => cases h1; cases h2; exact k
  | succ i => exact r.2 i f f' e x h1 h2
theorem repF_put {f : Str} {d : D} {v : V} (k : Rep g ids H O d v) : ∀ {fs : List (Str × D)} {vs : List (Str × V)}, RepF g ids H O fs vs → RepF g ids H O (putD f d fs) (putF f v vs)
  | [], [], r => repF_cons r k
  | [], _ :: _, r => by have z := r.1; simp at z
  | _ :: _, [], r => by have z := r.1; simp at z
  | (n, e) :: fs, (n2, x) :: vs, r => by
    have z := r.1
    simp only [List.map_cons, List.cons.injEq] at z
    obtain ⟨rfl, z⟩ := z
    have tl : RepF g ids H O fs vs := ⟨z, fun i f f' d x h1 h2 => r.2 (i + 1) f f' d x h1 h2⟩
    unfold putD putF
    by_cases hn : n2 = f
    · rw [if_pos hn, if_pos hn]
      exact repF_cons tl k
    · rw [if_neg hn, if_neg hn]
      exact repF_cons (repF_put k tl) (r.2 0 n2 n2 e x rfl rfl)
end
/-- the classes whose instances bear f themselves -/
def Bears (g : Gh) (cs : List Str) (f : Str) : Prop := ∀ C c, C ∈ cs → g.mg C = some (.ref c) → Cls g.K c ∧ NoAttr g.K c f
def dFld (cs : List Str) (f : Str) : D → Option Cell
  | .ins _ C fs => if C ∈ cs then (fs.lookup f).map fun d => ⟨false, d⟩ else none
  | _ => none
theorem pu_fld {g : Gh} {cs : List Str} {f : Str} (F : Bears g cs f) : Pure1 g (fun x H Q => ∃ a C dx fs v, x = .ref a ∧ H a = some (.ins C dx fs) ∧ Cls g.K C ∧ NoAttr g.K C f ∧ fs.lookup f = some v ∧ Q v H) (dFld cs f) := by
  intro ids H O d v c Q l e q
  cases d with
  | ins n C fs =>
    obtain ⟨a, k, dx, vs, rfl, _, hC, ha, rep⟩ := l
    unfold dFld at e
    dsimp only at e
    by_cases hm : C ∈ cs
    · rw [if_pos hm] at e
      cases el : fs.lookup f with
      | none => rw [el] at e; cases e
      | some d =>
        rw [el] at e
        cases e
        obtain ⟨u, lu, ru⟩ := repF_lookup rep el
        obtain ⟨c1, c2⟩ := F C k hm hC
        exact ⟨a, k, dx, vs, u, rfl, ha, c1, c2, lu, q _ _ (.val ru)⟩
    · rw [if_neg hm] at e
      cases e
  | _ => cases e
section
variable {X : Cx} {g : Gh} {W : WX} {e o : Expr} {m mo : M Opn} {f x : Str} {pos pos' p : Pos} {cs : List Str} {i : Nat}
theorem de_fld (B : g.K = X.K) (F : Bears g cs f) (he : DE X g W e m) (hb : attributeBase e f X.env (eval e X.env) = eval e X.env) : DE X g W (.Attribute e f pos) (M.bind m (pure1 (dFld cs f))) := by
  refine pe_imp (pe_fld he hb) fun σ H Q q => ?_
  obtain ⟨ids, S, Z, r, q⟩ := tD_wp.mp q
  refine tD_first r q fun o v S1 H1 ids1 A q1 => ?_
  have z := wp_pure1 (pu_fld F) A q1
  rw [B] at z
  exact z
/-- self.f = e, what self is being owned -/
def mSetF (cs : List Str) (f : Str) (i : Nat) (mv : M Opn) : M Opn := M.bind mv fun o S => match curD S o with
  | some d => (match (frzL S [o]).sl[i]? with
    | some (some ⟨true, .ins n C fs⟩) => if C ∈ cs ∧ fs.length < 1000 then .ok (.v ⟨false, .non⟩) (mutS (frzL S [o]) i (.ins n C (putD f d fs))) else .stuck
    | _ => .stuck)
  | none => .stuck
theorem ds_fld (B : g.K = X.K) (F : Bears g cs f) (hN : X.N[i]? = some x) (hv : Vis X.env.scope x) (hd : (x == ("__debug__" : Str)) = false) (hcd : (x == ("__classdict__" : Str)) = false) (he : DE X g W e m) (hs : swapsWith e (some (.Attribute (.Name x p) f pos')) pos.line X.env = pure false) :
    DS X g W (.Assign [.Attribute (.Name x p) f pos'] e pos) (sExpr (mSetF cs f i m)) := by
  refine ps_imp (ps_fld (pe_var hN hv hd hcd) he hs) fun D' σ H q => ?_
  obtain ⟨ids, S, Z, r, q⟩ := q
  have q' : Wp g W ids S σ H Z (fun v H' => D'.nx σ H') (mSetF cs f i m S) := by
    unfold sExpr at q
    cases e1 : mSetF cs f i m S with
    | ok o S1 =>
      rw [e1] at q
      exact fun v H' ids' A => q σ H' ids' A.step (A.rel.less fun b z => .inl z)
    | exc x S1 =>
      rw [e1] at q
      exact fun cls d H' ids' A => q cls d σ H' ids' A.sx
    | stuck => rw [e1] at q; exact q
  show tD g W m σ H fun y H1 => _
  refine tD_first r q' fun o v S1 H1 ids1 A h => ?_
  cases e1 : curD S1 o with
  | none => rw [e1] at h; exact h.elim
  | some d =>
    rw [e1] at h
    dsimp only at h
    have rep := Aft.takenS r A (ps := [o]) (p := o) (k := 0) (x := v) (by simp) rfl rfl e1
    have A2 := A.frzL (ps := [o])
    split at h
    · rename_i n C fs e2
      by_cases ok : C ∈ cs ∧ fs.length < 1000
      · rw [if_pos ok] at h
        obtain ⟨u, hu, hr⟩ := (A2.rel.less (Z' := Z) fun b z => .inl z).rep i _ e2
        obtain ⟨a, ea, hr0⟩ := hr.own
        subst ea
        obtain ⟨k, dx, vs, h1, h2, h3, h4⟩ := hr0
        obtain ⟨c1, c2⟩ := F C k ok.1 h2
        rw [B] at c1 c2
        have lv : vs.length < 1000 := by
          have z := congrArg List.length h4.1
          simp only [List.length_map] at z
          omega
        refine ⟨.ref a, hu, a, k, dx, vs, rfl, h3, c1, c2, lv, ?_⟩
        have put := (repF_put (f := f) rep h4)
        have own : OwnA (Ov.frzL S1 [o]) σ a := ⟨i, _, e2, hu⟩
        refine h .non _ ids1 (A2.mut e2 hu ⟨k, dx, _, h1, h2, upd_same, put.mono (upd_keptO (.inr own)) (fun b z => .inl z) .rfl⟩ .non)
      · rw [if_neg ok] at h
        exact h.elim
    · exact h.elim
end
end Ov


set_option Elab.async false
set_option linter.all false
set_option maxRecDepth 100000
set_option maxHeartbeats 4000000
namespace Ov
open PySem PySem.Spec PyProof.Rows L2
section
variable {P : Program} {w : World} {K : PySem.W.Frag} {mg : Str → Option Value} {base : Heap} {k k' : Nat} {f : Addr} {g : Gh} {F : FM} {qr qr' : Bool} {X : Cx} {W : WX} {N : List Str} {sc : Scope} {x m : Str} {p p0 pos apos : Pos} {e e2 o : Expr} {es : List Expr} {ms : M (List Opn)} {mo ma mb : M Opn}

/-! ### the class's name, its constants -/
theorem de_cls {c : Addr} (C : Wf qr P w K mg base k N sc X g W) (hm : mg x = some (.ref c)) (hg : sc.names.lookup x = some .globalImplicit) (hdb : (x == ("__debug__" : Str)) = false) : DE X g W (.Name x p) (mVal (.cls x)) := by
  refine pe_imp (pe_glob (v := .ref c) (C.gl hg) (by rw [C.m]; exact hm) rfl hdb) fun σ H Q q => ?_
  obtain ⟨ids, S, Z, r, q⟩ := q
  exact q (.ref c) H ids ((Aft.nil r).made (.val (.cls (by rw [C.gm, C.m]; exact hm))))
/-- x.m, a constant of the class x -/
theorem de_const {c : Addr} {mc u : Value} {d : D} (C : Wf qr P w K mg base k N sc X g W) (hm : mg x = some (.ref c)) (hg : sc.names.lookup x = some .globalImplicit) (hdb : (x == ("__debug__" : Str)) = false) (rd : ClX.CRead K c mc) (at_ : PySem.W.findCls K (.ref c) mc m = some (.val u)) (hf : flat d = true) (ru : RelV (vOf d) u)
    (hb : attributeBase (.Name x p) m X.env (eval (.Name x p) X.env) = eval (.Name x p) X.env) : DE X g W (.Attribute (.Name x p) m pos) (mVal d) := by
  have eK : X.K = K := C.K
  refine pe_imp (ClX.pe_cval (pe_glob (v := .ref c) (C.gl hg) (by rw [C.m]; exact hm) rfl hdb) hb) fun σ H Q q => ?_
  exact ⟨c, mc, vOf d, u, rfl, by rw [eK]; exact rd, ⟨by rw [eK]; exact at_, ru⟩, t_val hf σ H Q q⟩

/-! ### x.m(e, ..), x a class, m a classmethod -/
def mCls (x : Str) (F : FM) (ms : M (List Opn)) : M Opn := M.bind ms fun os => callM F (.v ⟨false, .cls x⟩ :: os)
theorem de_cmeth {c pr : Addr} {mc : Value} {pl : Sem Bool} (C : Wf qr P w K mg base k N sc X g W) (hm : mg x = some (.ref c)) (hg : sc.names.lookup x = some .globalImplicit) (hdb : (x == ("__debug__" : Str)) = false) (rd : ClX.CRead K c mc) (cm : ClX.CMet K c mc m pr f) (D : FnD qr' P w K mg base k' f g F) (hq : qr' = true → qr = true) (hk : k' ≤ k)
    (ha : DA X g W (e :: es) ms) (hst : starEach (e :: es) X.env = (false, eval e X.env) :: starEach es X.env) (hpl : (backTo pos (starEach es X.env)).any (·.1) = false)
    (ht : eval (.Call (.Attribute (.Name x p0) m apos) (e :: es) [] pos) X.env = (do
      let ov ← eval (.Name x p0) X.env
      standAt apos.atName
      let (f, first) ← holding [ov] (getMethod ov m pl)
      callWith pos f first (backTo pos (starEach (e :: es) X.env)) (backToKw pos (keywordEach [] X.env)))) :
    DE X g W (.Call (.Attribute (.Name x p0) m apos) (e :: es) [] pos) (mCls x F ms) := by
  have eK : X.K = K := C.K
  have rd2 : ClX.CRead X.K c mc := by rw [eK]; exact rd
  have cm2 : ClX.CMet X.K c mc m pr f := by rw [eK]; exact cm
  constructor
  intro pins s σ H Q I q
  obtain ⟨ids, S, Z, r, q⟩ := tD_wp.mp q
  have args : tDs g W ms σ H fun vs H1 => spF g (V.ref c :: vs).length F (V.ref c :: vs) H1 Q (WE W σ) := by
    have A0 := (Aft.nil r).made (v := .ref c) (H' := H) (.val (.cls (by rw [C.gm, C.m]; exact hm)))
    refine tDs_step A0 q fun os vs S2 H2 ids2 A q1 => wp_callD A r q1
  have ev : wpAny (model X.prog X.w) X.A (eval (.Name x p0) X.env) (fun v s1 => v = .ref c ∧ s1 = s) X.xe s := ld_glob I (C.gl hg) (by rw [C.m]; exact hm) ⟨rfl, rfl⟩ hdb
  refine PySem.W.methodCall_KW (pl := pl) (thn ev fun u s1 z => ?_) ht
  obtain ⟨rfl, rfl⟩ := z
  refine ClX.getmethcm_ok I rd2 cm2 fun s2 I2 => ?_
  refine ClX.callwith_cm I2 (ClX.base_none I (Nat.le_refl _)) cm2.fi (thn (ha.run pos _ s2 σ H _ I2 args) fun us s3 ⟨vs, H2, I3, rv, q2⟩ => ⟨⟨ClX.pin_at I3, I3.kIn⟩, ?_⟩) hst hpl
  have run := run_code C D hq hk (pins := _) I3 (us := .ref c :: us) (vs := V.ref c :: vs) (.cons rfl rv) q2
  exact thn (wpAny_call (PySem.W.method_call (ClX.pin_at I3) run)) fun _ _ y => ClX.unpinE y

/-! ### e.m, a property -/
def noExc (m : M Opn) : M Opn := fun S => match m S with
  | .exc _ _ => .stuck
  | r => r
def mProp (cs : List Str) (F : FM) (mo : M Opn) : M Opn := M.bind mo fun o S => match curD S o with
  | some (.ins _ C _) => if C ∈ cs then noExc (callM F [o]) S else .stuck
  | _ => .stuck
theorem FnG.ok {fd : FuncData} {ps : List Str} {sp : Sp} (G : FnG false P w K mg base k f fd ps sp) : FnOk P w K mg base (L2.CX P w) k f fd ps sp := ⟨G.len, fun A outer s H args us vs Q E hr => G.run A outer s H args us vs Q E hr fun z => nomatch z⟩
theorem noExc_wp {ids : List Addr} {S S1 : Sta} {σ : L2.St} {H : Hp} {Z : Addr → Prop} {Q : VK} {n : M Opn} (h : Wp g W ids S σ H Z Q (noExc n S1)) : Wp g W0 ids S σ H Z Q (n S1) := by
  unfold noExc at h
  cases e : n S1 with
  | exc x S2 => rw [e] at h; exact h.elim
  | ok o S2 => rw [e] at h; exact h
  | stuck => rw [e] at h; exact h
theorem de_prop {fd : FuncData} {ps : List Str} {cs : List Str} {np n : Nat} {mb : SM} (C : Wf qr P w K mg base k N sc X g W) (facts : ∀ Cn c, Cn ∈ cs → mg Cn = some (.ref c) → Cls K c ∧ ∃ pr, PropOf K c m pr f) (G : FnG false P w K mg base k' f fd ps (spF g 1 F)) (hb : Binds K fd ps []) (hk : k' + 1 ≤ k)
    (he : DE X g W e mo) (hab : attributeBase e m X.env (eval e X.env) = eval e X.env) : DE X g W (.Attribute e m pos) (mProp cs F mo) := by
  have eK : X.K = K := C.K
  constructor
  intro pins s σ H Q I q
  have q2 : tD g W mo σ H fun x1 H1 => ∃ a c dx fs pr, x1 = .ref a ∧ H1 a = some (.ins c dx fs) ∧ Cls X.K c ∧ PropOf X.K c m pr f ∧ spF g 1 F [.ref a] H1 Q (fun _ _ _ => False) := by
    obtain ⟨ids, S, Z, r, q⟩ := tD_wp.mp q
    refine tD_first r q fun o v S1 H1 ids1 A q1 => ?_
    cases e1 : curD S1 o with
    | none => rw [e1] at q1; exact q1.elim
    | some d =>
      rw [e1] at q1
      have l := A.look (i := 0) rfl rfl e1
      cases d with
      | ins n2 Cn fs =>
        dsimp only at q1
        by_cases hc : Cn ∈ cs
        · rw [if_pos hc] at q1
          obtain ⟨a, c, dx, vs, rfl, _, hC, ha, _⟩ := l
          obtain ⟨c1, pr, c2⟩ := facts Cn c hc (by rw [← C.m, ← C.gm]; exact hC)
          exact ⟨a, c, dx, vs, pr, rfl, ha, by rw [eK]; exact c1, by rw [eK]; exact c2, wp_call A r rfl (noExc_wp q1)⟩
        · rw [if_neg hc] at q1
          exact q1.elim
      | _ => exact q1.elim
  refine attr_of hab (thn (he.run pins s σ H _ I q2) fun u s1 ⟨x1, H1, I1, rx, a, c, dx, fs, pr, ex, ha, c1, c2, q3⟩ => ?_)
  subst ex
  obtain rfl : u = Value.ref a := rx
  have GX : FnOk X.prog X.w X.K X.mg X.base (L2.CX X.prog X.w) k' f fd ps (spF g 1 F) := by rw [C.P, C.w, C.K, C.m, C.b]; exact G.ok
  exact getprop_ok I1 ha c1 c2 GX (C.rm.mono hk) (by rw [eK]; exact hb) .nil (fun pins σ H s e s' I ⟨_, _, _, _, _, _, _, _, _, _, _, _, z⟩ => z) q3
end
end Ov


set_option Elab.async false
set_option linter.all false
set_option maxRecDepth 100000
set_option maxHeartbeats 4000000
namespace Ov
open PySem PySem.Spec PyProof.Rows L2

/-! ### == of two instances of one class that has no __eq__ of its own -/
structure Plain (K : PySem.W.Frag) (c : Addr) : Prop where
  obj : PySem.W.mroIn K c (.type "object") = some true
  eq : PySem.W.findIn K (.ref c) "__eq__" = some (some (.builtin "object.__eq__"))
section
variable {P : Program} {w : World} {A : Around} {E : Value → Shared → Prop} {s : Shared} {K : PySem.W.Frag} {a b c : Addr} {oa oda ob odb : Obj}
theorem same_ins {M : Model} {R : Bool → Shared → Prop} (ia : s.heap.get? a = some oa) (ib : s.heap.get? b = some ob) (ca : oa.cls = .ref c) (h : R (decide (a = b)) s) : wpAny M A (isSame (.ref a) (.ref b)) R E s := by
  unfold isSame
  dsimp only
  by_cases e : a = b
  · rw [decide_eq_true e] at h
    rw [if_pos (by simpa using e)]
    exact wpAny_pure h
  · rw [decide_eq_false e] at h
    rw [if_neg (by simpa using e)]
    refine wpAny_bind (wpAny_load ia (wpAny_bind (wpAny_load ib ?_)))
    rw [ca]
    exact wpAny_pure h
theorem eq_slot (X : K.In s.heap) (I : PySem.W.InstAt s.heap a oa c (some oda)) (J : PySem.W.InstAt s.heap b ob c (some odb)) (pl : Plain K c) {Q : Option Value → Shared → Prop} (h : Q (if a = b then some (.bool true) else none) s) :
    wpAny (model P w) A (tryCompare (.ref a) "__eq__" (.ref b)) Q E s := by
  have ans : wpAny (model P w) A (call (.builtin "object.__eq__") [.ref a, .ref b]) (fun v s2 => v = (if a = b then .bool true else .notImplemented) ∧ s2 = s) E s := by
    refine wpAny_call (codeAny_call_builtin PySem.F.cmp_object.eq.plain PySem.F.cmpEntry_eq (PySem.W.check_slot PySem.F.cmpKind_eq PySem.F.cmpSplit_eq (I.type.andThen (PySem.W.looks_mroIn X pl.obj)) (PySem.F.cmpArgs_eq _ _) ?_))
    unfold Builtin.«object.__eq__»
    refine wpAny_bind (wpAny_pure ?_)
    refine wpAny_bind (same_ins I.at_ J.at_ I.cls ?_)
    by_cases e : a = b
    · simp only [e, decide_true, if_true]
      exact wpAny_pure ⟨rfl, rfl⟩
    · simp only [e, decide_false, if_false, Bool.false_eq_true]
      exact wpAny_pure ⟨rfl, rfl⟩
  unfold tryCompare
  refine wpAny_bind (HN.ifBound_objEq X I pl.eq (thn ans fun v s2 z => ?_))
  obtain ⟨rfl, rfl⟩ := z
  by_cases e : a = b
  · rw [if_pos e] at h ⊢
    exact wpAny_pure h
  · rw [if_neg e] at h ⊢
    exact wpAny_pure h
end
section
variable {X : Cx}
def rSame (K : PySem.W.Frag) : R2 := fun x y H Q => ∃ a b c dx dy fs gs, x = .ref a ∧ y = .ref b ∧ H a = some (.ins c dx fs) ∧ H b = some (.ins c dy gs) ∧ Plain K c ∧ Q (.bl (decide (a = b))) H
theorem rich_same (un : X.A.units < cLine) {pins : List (Addr × Obj)} {s : Shared} {σ : L2.St} {H : Hp} {x y : V} {v u : Value} {Q : VK} (I : Inv X pins σ H s) (rx : RelV x v) (ry : RelV y u) (h : rSame X.K x y H Q) :
    wpAny (model X.prog X.w) X.A (richCompare .Eq v u) (EP X pins σ Q) X.xe s := by
  obtain ⟨a, b, c, dx, dy, fs, gs, rfl, rfl, ha, hb, pl, q⟩ := h
  obtain rfl : v = Value.ref a := rx
  obtain rfl : u = Value.ref b := ry
  obtain ⟨ma, Oa, _⟩ := ins_get I.hok ha
  obtain ⟨mb, Ob, _⟩ := ins_get I.hok hb
  obtain ⟨da, Ia, _⟩ := Oa.look
  obtain ⟨db, Ib, _⟩ := Ob.look
  have res : ∀ t : Bool, decide (a = b) = t → EP X pins σ Q (.bool t) s := fun t e => ⟨.bl t, H, I, rfl, by rw [← e]; exact q⟩
  simp only [richCompare, cmpInfo_Eq, oneThing_ref]
  refine wpAny_holding (wpAny_bind (wpAny_cRoomFor un (wpAny_bind (Ia.type.here (wpAny_bind (Ib.type.here ?_))))))
  rw [if_neg (by simp)]
  refine wpAny_bind (wpAny_pure ?_)
  simp only [Bool.false_eq_true, if_false, Bool.not_false, if_true]
  refine wpAny_bind (eq_slot I.kIn Ia Ib pl ?_)
  by_cases e : a = b
  · rw [if_pos e]
    exact wpAny_pure (res true (decide_eq_true e))
  · rw [if_neg e]
    refine wpAny_bind (eq_slot I.kIn Ib Ia pl ?_)
    rw [if_neg fun z => e z.symm]
    refine wpAny_bind (wpAny_rule (wpAny_bind (same_ins Ia.at_ Ib.at_ Ia.cls ?_)))
    rw [decide_eq_false e]
    exact wpAny_pure (res false (decide_eq_false e))
theorem op_same (un : X.A.units < cLine) : OpR X (compareOp .Eq) (rSame X.K) := fun pins s σ H x y v u Q I rx ry h => PySem.W.cmp_ofEq (rich_same un I rx ry h)
end
def mSame (cs : List Str) (ma mb : M Opn) : M Opn := m2 ma mb fun o p S => match curD S o, curD S p with
  | some (.ins n C _), some (.ins n2 C2 _) => if C = C2 ∧ C ∈ cs then .ok (.v ⟨false, .bl (decide (n = n2))⟩) S else .stuck
  | _, _ => .stuck
section
variable {P : Program} {w : World} {K : PySem.W.Frag} {mg : Str → Option Value} {base : Heap} {k k' : Nat} {g : Gh} {qr : Bool} {X : Cx} {W : WX} {N : List Str} {sc : Scope} {pos : Pos} {a b : Expr} {ma mb : M Opn}
theorem t_same {cs : List Str} (pl : ∀ Cn c, Cn ∈ cs → g.mg Cn = some (.ref c) → Plain g.K c) (σ : L2.St) (H : Hp) (Q : VK) (h : tD g W (mSame cs ma mb) σ H Q) : tOp (rSame g.K) (tD g W ma) (tD g W mb) σ H Q := by
  obtain ⟨ids, S, Z, rl, h⟩ := tD_wp.mp h
  refine tD_first rl h fun o x S1 H1 ids1 A h1 => ?_
  refine tD_step A h1 fun p y S2 H2 ids2 A2 h2 => ?_
  dsimp only at h2
  cases e1 : curD S2 o with
  | none => rw [e1] at h2; exact h2.elim
  | some d1 =>
    cases e2 : curD S2 p with
    | none => rw [e1, e2] at h2; cases d1 <;> exact h2.elim
    | some d2 =>
      rw [e1, e2] at h2
      have l1 := A2.look (i := 0) rfl rfl e1
      have l2 := A2.look (i := 1) rfl rfl e2
      cases d1 with
      | ins n C fs =>
        cases d2 with
        | ins n2 C2 fs2 =>
          dsimp only at h2
          by_cases ok : C = C2 ∧ C ∈ cs
          · rw [if_pos ok] at h2
            obtain ⟨rfl, hm⟩ := ok
            obtain ⟨a1, c1, dx, vs, rfl, i1, g1, o1, _⟩ := l1
            obtain ⟨a2, c2, dy, ws, rfl, i2, g2, o2, _⟩ := l2
            rw [g1] at g2
            cases g2
            have same : decide (a1 = a2) = decide (n = n2) := by
              by_cases e : n = n2
              · subst e
                rw [i1] at i2
                cases i2
                simp
              · have ne : a1 ≠ a2 := fun z => by
                  subst z
                  obtain ⟨q1, q2⟩ := List.getElem?_eq_some_iff.mp i1
                  obtain ⟨q3, q4⟩ := List.getElem?_eq_some_iff.mp i2
                  exact e ((List.getElem_inj A2.rel.nd).mp (q2.trans q4.symm))
                rw [decide_eq_false e, decide_eq_false ne]
            refine ⟨a1, a2, c1, dx, dy, vs, ws, rfl, rfl, o1, o2, pl C c1 hm g1, ?_⟩
            rw [same]
            exact h2 _ H2 ids2 (A2.made (.val (.bl _)))
          · rw [if_neg ok] at h2
            exact h2.elim
        | _ => exact h2.elim
      | _ => cases d2 <;> exact h2.elim
theorem de_same {cs : List Str} (C : Wf qr P w K mg base k N sc X g W) (pl : ∀ Cn c, Cn ∈ cs → mg Cn = some (.ref c) → Plain K c) (ha : DE X g W a ma) (hb : DE X g W b mb) (hm : behindInMarks .Eq b = false) : DE X g W (.Compare a [.Eq] [b] pos) (mSame cs ma mb) := by
  have eg : g.K = X.K := C.gK
  refine pe_imp (pe_cmpR (op_same C.rm.units0) ha hb hm) fun σ H Q q => ?_
  rw [← eg]
  exact t_same (fun Cn c h z => by rw [eg, C.K]; exact pl Cn c h (by rw [← C.m, ← C.gm]; exact z)) σ H Q q
end
end Ov


set_option Elab.async false
set_option linter.all false
set_option maxRecDepth 100000
set_option maxHeartbeats 4000000
namespace Ov
open PySem PySem.Spec PyProof.Rows L2
section
variable {P : Program} {w : World} {K : PySem.W.Frag} {mg : Str → Option Value} {base : Heap} {k k' : Nat} {g : Gh} {qr qr' : Bool} {X : Cx} {W : WX} {N : List Str} {sc : Scope} {pos p : Pos} {a b e : Expr} {ma mb m : M Opn} {f : Addr} {F : FM}

/-! ### one + other, by the class's own __add__ -/
structure Adds (K : PySem.W.Frag) (c f : Addr) (op : Operator) : Prop where
  first : PySem.W.selfFirst K c = true
  at_ : PySem.W.findIn K (.ref c) (PySem.dunder op.info.2) = some (some (.ref f))
  fn : PySem.W.isFn K (.ref f) = true
def mOwnOp (cs : List Str) (F : FM) (ma mb : M Opn) : M Opn := m2 ma mb fun o p S => match curD S o, curD S p with
  | some (.ins _ C _), some (.ins _ C2 _) => if C = C2 ∧ C ∈ cs then callM F [o, p] S else .stuck
  | _, _ => .stuck
theorem de_ownOp {cs : List Str} {op : Operator} (C : Wf qr P w K mg base k N sc X g W) (ad : ∀ Cn c, Cn ∈ cs → mg Cn = some (.ref c) → Adds K c f op) (D : FnD qr' P w K mg base k' f g F) (hq : qr' = true → qr = true) (hk : k' ≤ k) (ha : DE X g W a ma) (hb : DE X g W b mb) :
    DE X g W (.BinOp a op b pos) (mOwnOp cs F ma mb) := by
  constructor
  intro pins s σ H Q I q
  have q2 : tOp (fun x y H2 Q => ∃ a1 a2 c dx dy fs gs, x = .ref a1 ∧ y = .ref a2 ∧ H2 a1 = some (.ins c dx fs) ∧ H2 a2 = some (.ins c dy gs) ∧ Adds K c f op ∧ spF g 2 F [.ref a1, .ref a2] H2 Q (WE W σ)) (tD g W ma) (tD g W mb) σ H Q := by
    obtain ⟨ids, S, Z, rl, h⟩ := tD_wp.mp q
    refine tD_first rl h fun o x S1 H1 ids1 A h1 => ?_
    refine tD_step A h1 fun p y S2 H2 ids2 A2 h2 => ?_
    dsimp only at h2
    cases e1 : curD S2 o with
    | none => rw [e1] at h2; exact h2.elim
    | some d1 =>
      cases e2 : curD S2 p with
      | none => rw [e1, e2] at h2; cases d1 <;> exact h2.elim
      | some d2 =>
        rw [e1, e2] at h2
        have l1 := A2.look (i := 0) rfl rfl e1
        have l2 := A2.look (i := 1) rfl rfl e2
        cases d1 with
        | ins n Cn fs =>
          cases d2 with
          | ins n2 C2 fs2 =>
            dsimp only at h2
            by_cases ok : Cn = C2 ∧ Cn ∈ cs
            · rw [if_pos ok] at h2
              obtain ⟨rfl, hm⟩ := ok
              obtain ⟨a1, c1, dx, vs, rfl, _, g1, o1, _⟩ := l1
              obtain ⟨a2, c2, dy, ws, rfl, _, g2, o2, _⟩ := l2
              rw [g1] at g2
              cases g2
              exact ⟨a1, a2, c1, dx, dy, vs, ws, rfl, rfl, o1, o2, ad Cn c1 hm (by rw [← C.m, ← C.gm]; exact g1), wp_call A2 rl rfl h2⟩
            · rw [if_neg ok] at h2
              exact h2.elim
          | _ => exact h2.elim
        | _ => cases d2 <;> exact h2.elim
  refine wpAny_BinOp (binT ha hb I q2 fun v u s2 x y H2 I2 rx ry q3 => ?_)
  obtain ⟨a1, a2, c, dx, dy, fs, gs, rfl, rfl, o1, o2, own, q4⟩ := q3
  obtain rfl : v = Value.ref a1 := rx
  obtain rfl : u = Value.ref a2 := ry
  obtain ⟨m1, O1, _⟩ := ins_get I2.hok o1
  obtain ⟨m2, O2, _⟩ := ins_get I2.hok o2
  obtain ⟨d1, J1, _⟩ := O1.look
  obtain ⟨d2, J2, _⟩ := O2.look
  obtain ⟨mf, fr⟩ := I2.fr
  have eK : X.K = K := C.K
  refine PySem.W.binop_K (K := X.K) fr I2.ok.mod.kin J1 J2.type (by rw [eK]; exact own.first) (by rw [eK]; exact own.at_) (by rw [eK]; exact own.fn) ?_
  refine thn (run_callD C D hq hk I2 (us := [.ref a1, .ref a2]) (vs := [V.ref a1, V.ref a2]) (.cons rfl (.cons rfl .nil)) q4) fun r s3 z => ?_
  cases r with
  | notImplemented => obtain ⟨x, _, _, rv, _⟩ := z; cases x <;> first | (cases rv; done) | (obtain ⟨_, rv⟩ := rv; cases rv)
  | _ => exact z

/-! ### len(e), by the class's own __len__ -/
structure Lens (K : PySem.W.Frag) (c f : Addr) : Prop where
  at_ : PySem.W.findIn K (.ref c) "__len__" = some (some (.ref f))
  fn : PySem.W.isFn K (.ref f) = true
def mLenI (cs : List Str) (F : FM) (m : M Opn) : M Opn := M.bind m fun o S => match curD S o with
  | some (.ins _ C _) => if C ∈ cs then (match callM F [o] S with
    | .ok (.v ⟨false, .int n⟩) S2 => if 0 ≤ n ∧ n < 2 ^ 63 then .ok (.v ⟨false, .int n⟩) S2 else .stuck
    | .exc x S2 => .exc x S2
    | _ => .stuck) else .stuck
  | _ => .stuck
theorem de_lenI {cs : List Str} {pl : Pos} (C : Wf qr P w K mg base k N sc X g W) (ln : ∀ Cn c, Cn ∈ cs → mg Cn = some (.ref c) → Lens K c f) (D : FnD false P w K mg base k' f g F) (hk : k' + 1 ≤ k) (gLen : sc.names.lookup ("len" : Str) = some .globalImplicit) (mLen : mg "len" = none) (he : DE X g W e m)
    (one : starEach [e] X.env = (false, eval e X.env) :: starEach [] X.env) : DE X g W (.Call (.Name "len" p) [e] [] pos) (mLenI cs F m) := by
  have eK : X.K = K := C.K
  constructor
  intro pins s σ H Q I q
  have q2 : tD g W m σ H fun x H1 => ∃ a c dx fs, x = .ref a ∧ H1 a = some (.ins c dx fs) ∧ Lens K c f ∧ spF g 1 F [.ref a] H1 (fun v H2 => ∃ n, v = .int n ∧ 0 ≤ n ∧ n < 2 ^ 63 ∧ Q (.int n) H2) (WE W σ) := by
    obtain ⟨ids, S, Z, rl, h⟩ := tD_wp.mp q
    refine tD_first rl h fun o x S1 H1 ids1 A h1 => ?_
    cases e1 : curD S1 o with
    | none => rw [e1] at h1; exact h1.elim
    | some d =>
      rw [e1] at h1
      have l := A.look (i := 0) rfl rfl e1
      cases d with
      | ins n2 Cn fs =>
        dsimp only at h1
        by_cases hc : Cn ∈ cs
        · rw [if_pos hc] at h1
          obtain ⟨a, c, dx, vs, rfl, _, hC, ha, _⟩ := l
          refine ⟨a, c, dx, vs, rfl, ha, ln Cn c hc (by rw [← C.m, ← C.gm]; exact hC), wp_call A rl rfl ?_⟩
          cases ec : callM F [o] S1 with
          | stuck => rw [ec] at h1; exact h1.elim
          | exc y S2 => rw [ec] at h1; exact h1
          | ok r S2 =>
            rw [ec] at h1
            intro v H2 ids2 B
            match r, h1, B with
            | .v ⟨false, .int n⟩, h1, B =>
              dsimp only at h1
              by_cases hn : 0 ≤ n ∧ n < 2 ^ 63
              · rw [if_pos hn] at h1
                have lv : v = .int n := B.look (i := 0) (d := .int n) rfl rfl rfl
                subst lv
                exact ⟨n, rfl, hn.1, hn.2, h1 _ H2 ids2 B⟩
              · rw [if_neg hn] at h1
                exact h1.elim
            | .v ⟨true, _⟩, h1, B => exact h1.elim
            | .v ⟨false, .non⟩, h1, B => exact h1.elim
            | .v ⟨false, .bl _⟩, h1, B => exact h1.elim
            | .v ⟨false, .str _⟩, h1, B => exact h1.elim
            | .v ⟨false, .tup _⟩, h1, B => exact h1.elim
            | .v ⟨false, .lst _⟩, h1, B => exact h1.elim
            | .v ⟨false, .ins _ _ _⟩, h1, B => exact h1.elim
            | .v ⟨false, .op _⟩, h1, B => exact h1.elim
            | .v ⟨false, .cls _⟩, h1, B => exact h1.elim
            | .v ⟨false, .scr _⟩, h1, B => exact h1.elim
            | .s _, h1, B => exact h1.elim
        · rw [if_neg hc] at h1
          exact h1.elim
      | _ => exact h1.elim
  refine Call_ (ld_blt I (C.gl gLen) (by rw [C.m]; exact mLen) boot_len (PyProof.Rows.callWith_builtin1 (PyProof.Rows.args_cons (thn (he.run pins s σ H _ I q2) fun v s1 z => PyProof.Rows.args_nil ?_) one) one rfl))
  obtain ⟨x, H1, I1, rx, a, c, dx, fs, rfl, ha, own, q3⟩ := z
  obtain rfl : v = Value.ref a := rx
  obtain ⟨mA, O, _⟩ := ins_get I1.hok ha
  obtain ⟨od, J, _⟩ := O.look
  obtain ⟨mf, fr⟩ := I1.fr
  have D2 : FnD false X.prog X.w X.K X.mg X.base k' f g F := by rw [C.P, C.w, C.K, C.m, C.b]; exact D
  refine PySem.W.len_K (K := X.K) fr I1.ok.mod.kin J (by rw [eK]; exact own.at_) (by rw [eK]; exact own.fn) (wpAny_call (codeAny_mono (D2 X.A.in1 X.stack s1 H1 [.ref a] [V.ref a] _ (WE W σ) (C.rm.mono hk).in1 (fun z => nomatch z) I1.env0.in1 (.cons rfl .nil) q3) fun r2 s2 y => ?_))
  match r2, y with
  | .error er, y => exact passAt C.tk σ pins H1 s1 er s2 I1 y
  | .ok (.ret u), y =>
    obtain ⟨v2, H2, I2, rv, n, ev, h0, h1, q4⟩ := I1.after y
    subst ev
    obtain ⟨t, rfl⟩ := rv
    exact ⟨⟨h0, h1⟩, .int n, H2, I2.tok _, ⟨_, rfl⟩, q4⟩
end
end Ov


set_option Elab.async false
set_option linter.all false
set_option maxRecDepth 100000
set_option maxHeartbeats 4000000
namespace Ov
open PySem PySem.Spec PyProof.Rows L2

/-! ### a, b = x, y and a, b, c = x, y, z -/
/-- shared data into slots, from the left -/
def stores : List Nat → List D → Sta → Option Sta
  | [], [], S => some S
  | i :: is, d :: ds, S => (setSl i ⟨false, d⟩ S).bind (stores is ds)
  | _, _, _ => none
def setV : List Nat → List V → L2.St → L2.St
  | i :: is, v :: vs, σ => setV is vs (σ.set i (some v))
  | _, _, σ => σ
section
variable {g : Gh} {W : WX} {ids ids1 : List Addr} {H : Hp} {Z : Addr → Prop}
theorem stores_step : ∀ {is : List Nat} {ds : List D} {vs : List V} {S S2 : Sta} {σ : L2.St}, Rel g ids S σ H Z → RepL g ids H (OA S σ Z) ds vs → stores is ds S = some S2 → Step ids S σ H ids S2 (setV is vs σ) H ∧ Rel g ids S2 (setV is vs σ) H Z
  | [], [], [], S, S2, σ, r, _, h => by cases h; exact ⟨.refl, r⟩
  | [], [], _ :: _, _, _, _, _, rep, _ => by have z := rep.1; simp at z
  | [], _ :: _, _, _, _, _, _, _, h => by cases h
  | _ :: _, [], _, _, _, _, _, _, h => by cases h
  | _ :: _, _ :: _, [], _, _, _, _, rep, _ => by have z := rep.1; simp at z
  | i :: is, d :: ds, v :: vs, S, S2, σ, r, rep, h => by
    have h' : (setSl i ⟨false, d⟩ S).bind (stores is ds) = some S2 := h
    cases e : setSl i ⟨false, d⟩ S with
    | none => rw [e] at h'; cases h'
    | some S1 =>
      rw [e, Option.bind_some] at h'
      have T := set_sto (g := g) (Z := Z) (v := v) (by rw [ZC.sh]; exact r) (by rw [ZC.sh]; exact rep.2 0 d v rfl rfl) (fun a h => Bool.noConfusion (show false = true from h)) e
      have st : Step ids S σ H ids S1 (σ.set i (some v)) H := ⟨.refl, fun _ h => h, fun j dj a h1 h2 => (T.own j dj a h1 h2).elim (fun z => Bool.noConfusion (show false = true from z.1)) .inr, T.pinσ, T.pinb, T.pin, .rfl⟩
      have rep2 : RepL g ids H (OA S1 (σ.set i (some v)) Z) ds vs := (show RepL g ids H (OA S σ Z) ds vs from ⟨by have z := rep.1; simpa using z, fun j dj x h1 h2 => rep.2 (j + 1) dj x h1 h2⟩).mono .refl (fun a z => .inl (Sto.grown T z)) .rfl
      obtain ⟨st2, r2⟩ := stores_step T.rel rep2 h'
      exact ⟨st.trans st2, r2⟩
end
def sPar (is : List Nat) (ms : M (List Opn)) : SM := fun S => match ms S with
  | .ok os S1 => (match os.mapM (curD S1) with
    | some ds => (match stores is ds (frzL S1 os) with
      | some S2 => .nx S2
      | none => .stuck)
    | none => .stuck)
  | .exc x S1 => .exc x S1
  | .stuck => .stuck
section
variable {P : Program} {w : World} {K : PySem.W.Frag} {mg : Str → Option Value} {base : Heap} {k : Nat} {g : Gh} {qr : Bool} {X : Cx} {W : WX} {N : List Str} {sc : Scope} {pos px py pz pt pt2 : Pos} {kt k2 : Nat} {a b c : Expr} {ms : M (List Opn)} {i j l : Nat} {x y z : Str}
theorem par_read {is : List Nat} {D' : Ends} {σ : L2.St} {H : Hp} (q : tS g W (sPar is ms) D' σ H) : tDs g W ms σ H fun vs H1 => vs.length = is.length ∧ D'.nx (setV is vs σ) H1 := by
  obtain ⟨ids, S, Z, r, q⟩ := q
  refine tDs_wp.mpr ⟨ids, S, Z, r, ?_⟩
  unfold sPar at q
  cases e : ms S with
  | stuck => rw [e] at q; exact q
  | exc x S1 => rw [e] at q; exact fun cls d H1 ids1 A => q cls d σ H1 ids1 A.sx
  | ok os S1 =>
    rw [e] at q
    dsimp only at q
    intro vs H1 ids1 A
    cases em : os.mapM (curD S1) with
    | none => rw [em] at q; exact q.elim
    | some ds =>
      rw [em] at q
      dsimp only at q
      cases es : stores is ds (Ov.frzL S1 os) with
      | none => rw [es] at q; exact q.elim
      | some S2 =>
        rw [es] at q
        obtain ⟨rep, B⟩ := A.taken r em
        obtain ⟨st, r2⟩ := stores_step (B.rel.less fun b z => .inl z) rep es
        refine ⟨?_, q _ H1 ids1 (B.step.trans st) r2⟩
        have len : ∀ {is : List Nat} {ds : List D} {S S2 : Sta}, stores is ds S = some S2 → ds.length = is.length := fun {is} => by
          induction is with
          | nil => intro ds S S2 h; cases ds with
            | nil => rfl
            | cons d ds => cases h
          | cons i is ih => intro ds S S2 h; cases ds with
            | nil => cases h
            | cons d ds =>
              have h' : (setSl i ⟨false, d⟩ S).bind (stores is ds) = some S2 := h
              cases e : setSl i ⟨false, d⟩ S with
              | none => rw [e] at h'; cases h'
              | some S1 => rw [e, Option.bind_some] at h'; rw [List.length_cons, List.length_cons, ih h']
        rw [rep.1, len es]
theorem ds_par2 (C : Wf qr P w K mg base k N sc X g W) (hi : N[i]? = some x) (hj : N[j]? = some y) (ne : i ≠ j) (hx : sc.names.lookup x = some .local) (hy : sc.names.lookup y = some .local) (ha : DA X g W [a, b] ms)
    (hw : X.env.scope.kind = .function → X.env.scope.names.lookup x = some .local → X.env.scope.names.lookup y = some .local → swappedStores [.Tuple [.Name x px, .Name y py] kt pt] (.Tuple [a, b] k2 pt2) X.env = pure (some [x, y]))
    (hs : swapsWithSole [.Tuple [.Name x px, .Name y py] kt pt] (.Tuple [a, b] k2 pt2) pos.line X.env = pure false) : DS X g W (.Assign [.Tuple [.Name x px, .Name y py] kt pt] (.Tuple [a, b] k2 pt2) pos) (sPar [i, j] ms) := by
  refine ps_imp (ps_par C.cm C.nd (by rw [C.N]; exact hi) (by rw [C.N]; exact hj) ne (C.loc x hx) (C.loc y hy) ha (hw C.kd (C.loc x hx) (C.loc y hy)) hs) fun D' σ H q => ?_
  obtain ⟨ids, S, Z, r, q⟩ := tDs_wp.mp (par_read q)
  refine tDs_wp.mpr ⟨ids, S, Z, r, ?_⟩
  cases e : ms S with
  | stuck => rw [e] at q; exact q
  | exc x S1 => rw [e] at q; exact q
  | ok os S1 =>
    rw [e] at q
    intro vs H1 ids1 A
    obtain ⟨len, q⟩ := q vs H1 ids1 A
    match vs, len, q with
    | [u, v], _, q => exact ⟨u, v, rfl, q⟩
theorem ds_par3 (C : Wf qr P w K mg base k N sc X g W) (hi : N[i]? = some x) (hj : N[j]? = some y) (hl : N[l]? = some z) (n1 : i ≠ j) (n2 : i ≠ l) (n3 : j ≠ l) (hx : sc.names.lookup x = some .local) (hy : sc.names.lookup y = some .local) (hz : sc.names.lookup z = some .local) (ha : DA X g W [a, b, c] ms)
    (hw : X.env.scope.kind = .function → X.env.scope.names.lookup x = some .local → X.env.scope.names.lookup y = some .local → X.env.scope.names.lookup z = some .local → swappedStores [.Tuple [.Name x px, .Name y py, .Name z pz] kt pt] (.Tuple [a, b, c] k2 pt2) X.env = pure (some [x, y, z]))
    (hs : swapsWithSole [.Tuple [.Name x px, .Name y py, .Name z pz] kt pt] (.Tuple [a, b, c] k2 pt2) pos.line X.env = pure false) : DS X g W (.Assign [.Tuple [.Name x px, .Name y py, .Name z pz] kt pt] (.Tuple [a, b, c] k2 pt2) pos) (sPar [i, j, l] ms) := by
  refine ps_imp (ps_par3 C.cm C.nd (by rw [C.N]; exact hi) (by rw [C.N]; exact hj) (by rw [C.N]; exact hl) n1 n2 n3 (C.loc x hx) (C.loc y hy) (C.loc z hz) ha (hw C.kd (C.loc x hx) (C.loc y hy) (C.loc z hz)) hs) fun D' σ H q => ?_
  obtain ⟨ids, S, Z, r, q⟩ := tDs_wp.mp (par_read q)
  refine tDs_wp.mpr ⟨ids, S, Z, r, ?_⟩
  cases e : ms S with
  | stuck => rw [e] at q; exact q
  | exc x S1 => rw [e] at q; exact q
  | ok os S1 =>
    rw [e] at q
    intro vs H1 ids1 A
    obtain ⟨len, q⟩ := q vs H1 ids1 A
    match vs, len, q with
    | [u, v, w2], _, q => exact ⟨u, v, w2, rfl, q⟩
end

/-! ### a text times a number -/
def mulOk (x : Str) (n : Int) : Bool := decide (0 ≤ n) && decide (n ≤ 4096) && decide (x.length ≤ 4096)
theorem mulOk_ok {x : Str} {n : Int} (h : mulOk x n = true) : MulOk x n := by
  simp only [mulOk, Bool.and_eq_true, decide_eq_true_eq] at h
  obtain ⟨⟨h0, h1⟩, h2⟩ := h
  refine ⟨by simp; omega, fun h3 _ => ?_, fun h3 _ => ?_⟩
  · have p : (0 : Int) < n := by omega
    have q : (4096 : Int) ≤ (2 ^ 63 - 1) / n := by
      refine Int.le_ediv_of_mul_le p ?_
      have : 4096 * n ≤ 4096 * 4096 := by omega
      omega
    omega
  · have p : x.length * n.toNat ≤ 4096 * 4096 := Nat.mul_le_mul h2 (by omega)
    have e : sizeLine = 16777216 := sizeLine_eq
    unfold PySem.Builtin.Str.tooLong
    exact decide_eq_false (by omega)
def dMulS : D → D → Option Cell
  | .str x, .int n => if mulOk x n = true then cv (.str (Txt.mul x n)) else none
  | _, _ => none
def rMulS : R2 := fun x y H Q => ∃ a n, x = .str a ∧ y = .int n ∧ mulOk a n = true ∧ Q (.str (Txt.mul a n)) H
theorem op_mulS {X : Cx} : OpR X (binaryOp .Mult) rMulS := by
  intro pins s σ H x y v u Q I rx ry h
  obtain ⟨a, n, rfl, rfl, ok, q⟩ := h
  obtain ⟨t, rfl⟩ := rx
  obtain ⟨t2, rfl⟩ := ry
  exact SB.mul (mulOk_ok ok) fun t3 k => ⟨.str _, H, I.tok k, ⟨t3, rfl⟩, q⟩
theorem pu_mulS {g : Gh} : Pure2 g rMulS dMulS := by
  intro ids H O d e v w c Q l1 l2 f q
  cases d with
  | str x =>
    cases e with
    | int n =>
      cases l1
      cases l2
      have f' : (if mulOk x n = true then cv (.str (Txt.mul x n)) else none) = some c := f
      by_cases ok : mulOk x n = true
      · rw [if_pos ok] at f'
        cases f'
        exact ⟨x, n, rfl, rfl, ok, q _ _ (.val (.str _))⟩
      · rw [if_neg ok] at f'
        cases f'
    | _ => cases f
  | _ => cases f
end Ov


set_option Elab.async false
set_option linter.all false
set_option maxRecDepth 100000
set_option maxHeartbeats 4000000
namespace Ov
open PySem PySem.Spec PyProof.Rows L2

/-! ### the rules in short, by the context's facts -/
section
variable {P : Program} {w : World} {K : PySem.W.Frag} {mg : Str → Option Value} {base : Heap} {k k' : Nat} {g : Gh} {qr qr' : Bool} {X : Cx} {W : WX} {N : List Str} {sc : Scope} {pos p p0 p2 apos spos : Pos} {a b c e o elt tg iter : Expr} {es ifs : List Expr} {ma mb mc m : M Opn} {ms : M (List Opn)}
  {x : Str} {scope : Scope} {own : List (Str × Nat)} {mi : M (List D)} {am : AM} {L : List Nat} {tst : M Bool} {me : M Opn} {op op' : CmpOp} {r r' : R2} {F G : D → D → Option Cell}
theorem e_var (C : Wf qr P w K mg base k N sc X g W) (i : Nat) (hN : N[i]? = some x := by rfl) (hv : sc.names.lookup x = some .local ∨ sc.names.lookup x = some .cell ∨ sc.names.lookup x = some .free := by first | exact .inl rfl | exact .inr (.inl rfl) | exact .inr (.inr rfl))
    (hd : (x == ("__debug__" : Str)) = false := by decide) (hcd : (x == ("__classdict__" : Str)) = false := by decide) : DE X g W (.Name x pos) (mSlot i) := de_var i (by rw [C.N]; exact hN) (C.vis hv) hd hcd
theorem e_str {x : Str} {j : Nat} (C : Wf qr P w K mg base k N sc X g W) : DE X g W (.Constant (.str x) j pos) (mVal (.str x)) := de_str
theorem e_add (C : Wf qr P w K mg base k N sc X g W) (ha : DE X g W a ma) (hb : DE X g W b mb) : DE X g W (.BinOp a .Add b pos) (m2 ma mb (pure2 dAdd)) := de_bin op_addD pu_add ha hb
theorem e_sub (C : Wf qr P w K mg base k N sc X g W) (ha : DE X g W a ma) (hb : DE X g W b mb) : DE X g W (.BinOp a .Sub b pos) (m2 ma mb (pure2 dSub)) := de_bin op_sub pu_sub ha hb
theorem e_mul (C : Wf qr P w K mg base k N sc X g W) (ha : DE X g W a ma) (hb : DE X g W b mb) : DE X g W (.BinOp a .Mult b pos) (m2 ma mb (pure2 dMul)) := de_bin op_mulD pu_mul ha hb
theorem e_mulS (C : Wf qr P w K mg base k N sc X g W) (ha : DE X g W a ma) (hb : DE X g W b mb) : DE X g W (.BinOp a .Mult b pos) (m2 ma mb (pure2 dMulS)) := de_bin op_mulS pu_mulS ha hb
theorem e_fdiv (C : Wf qr P w K mg base k N sc X g W) (ha : DE X g W a ma) (hb : DE X g W b mb) : DE X g W (.BinOp a .FloorDiv b pos) (m2 ma mb (pure2 dFdiv)) := de_bin op_fdivW pu_fdiv ha hb
theorem e_mod (C : Wf qr P w K mg base k N sc X g W) (ha : DE X g W a ma) (hb : DE X g W b mb) : DE X g W (.BinOp a .Mod b pos) (m2 ma mb (pure2 dMod)) := de_bin op_mod pu_mod ha hb
theorem e_pow (C : Wf qr P w K mg base k N sc X g W) (ha : DE X g W a ma) (hb : DE X g W b mb) : DE X g W (.BinOp a .Pow b pos) (m2 ma mb (pure2 dPow)) := de_bin op_powW pu_pow ha hb
theorem e_neg (C : Wf qr P w K mg base k N sc X g W) (ha : DE X g W a ma) : DE X g W (.UnaryOp .USub a pos) (m1 ma (pure1 dNeg)) := de_un un_neg pu_neg ha
theorem e_ix (C : Wf qr P w K mg base k N sc X g W) (ha : DE X g W a ma) (hb : DE X g W b mb) (hs : PlainIx b := by intro _ _; rfl) : DE X g W (.Subscript a b pos) (m2 ma mb (pure2 dIx)) := de_ix ix_seq (by rw [← C.gK]; exact pu_ix) ha hb hs
/-- a comparison's rule: how the operator computes -/
structure Cmp (X : Cx) (g : Gh) (op : CmpOp) (F : D → D → Option Cell) : Prop where
  ex : ∃ r, OpR X (compareOp op) r ∧ Pure2 g r F
theorem c_lt : Cmp X g .Lt dLt := ⟨_, op_lt, pu_lt⟩
theorem c_le : Cmp X g .LtE dLe := ⟨_, op_le, pu_le⟩
theorem c_gt : Cmp X g .Gt dGt := ⟨_, op_gt, pu_gt⟩
theorem c_ge : Cmp X g .GtE dGe := ⟨_, op_ge, pu_ge⟩
theorem Wf.u64 (C : Wf qr P w K mg base k N sc X g W) : X.A.units + 65 < cLine := by have := C.rm.un; omega
theorem c_eq (C : Wf qr P w K mg base k N sc X g W) : Cmp X g .Eq dEqP := ⟨_, op_eqD (by have := C.u64; omega), by rw [← C.gK]; exact pu_eqP⟩
theorem c_ne (C : Wf qr P w K mg base k N sc X g W) : Cmp X g .NotEq dNeP := ⟨_, op_neD (by have := C.u64; omega), by rw [← C.gK]; exact pu_neP⟩
theorem c_in (C : Wf qr P w K mg base k N sc X g W) : Cmp X g .In dIn := ⟨_, op_inDD C.u64, by rw [← C.gK]; exact pu_in⟩
theorem c_notIn (C : Wf qr P w K mg base k N sc X g W) : Cmp X g .NotIn dNotIn := ⟨_, op_notInDD C.u64, by rw [← C.gK]; exact pu_notIn⟩
theorem c_isN : Cmp X g .Is dIsN := ⟨_, op_isN, pu_isN⟩
theorem e_cmp (C : Wf qr P w K mg base k N sc X g W) (h : Cmp X g op F) (ha : DE X g W a ma) (hb : DE X g W b mb) (hm : behindInMarks op b = false := by with_unfolding_all rfl) : DE X g W (.Compare a [op] [b] pos) (m2 ma mb (pure2 F)) := let ⟨_, ho, hp⟩ := h.ex; de_cmp ho hp ha hb hm
theorem t_cmp (C : Wf qr P w K mg base k N sc X g W) (h : Cmp X g op F) (ha : DE X g W a ma) (hb : DE X g W b mb) (hm : behindInMarks op b = false := by with_unfolding_all rfl) : DT X g W (.Compare a [op] [b] pos) (mTest (m2 ma mb (pure2 F))) := let ⟨_, ho, hp⟩ := h.ex; dt_cmp ho hp ha hb hm
theorem e_chain (C : Wf qr P w K mg base k N sc X g W) (h : Cmp X g op F) (h' : Cmp X g op' G) (ha : DE X g W a ma) (hb : DE X g W b mb) (hc : DE X g W c mc) (hm : lastMarks [op, op'] [b, c] = false := by with_unfolding_all rfl) : DE X g W (.Compare a [op, op'] [b, c] pos) (mChain ma mb mc F G) :=
  let ⟨_, ho, hp⟩ := h.ex; let ⟨_, ho', hp'⟩ := h'.ex; de_chain ho ho' hp hp' ha hb hc hm
theorem t_chain2 (C : Wf qr P w K mg base k N sc X g W) (h : Cmp X g op F) (h' : Cmp X g op' G) (ha : DE X g W a ma) (hb : DE X g W b mb) (hc : DE X g W c mc) (hm : lastMarks [op, op'] [b, c] = false := by with_unfolding_all rfl) : DT X g W (.Compare a [op, op'] [b, c] pos) (mTest (mChain ma mb mc F G)) :=
  let ⟨_, ho, hp⟩ := h.ex; let ⟨_, ho', hp'⟩ := h'.ex; dt_chain ho ho' hp hp' ha hb hc hm
theorem t_tru (C : Wf qr P w K mg base k N sc X g W) (ha : DE X g W a ma) (he : ∀ whole, isTrue a X.env whole = (do let v ← whole; standAt a.pos; holding [v] (truthy v)) := by intro _; rfl) : DT X g W a (mTru ma) := dt_tru C.gK ha he
theorem a_nil (C : Wf qr P w K mg base k N sc X g W) : DA X g W [] mNil := da_nil
theorem a_cons (C : Wf qr P w K mg base k N sc X g W) (h : DE X g W e m) (hs : DA X g W es ms) (hst : starEach (e :: es) X.env = (false, eval e X.env) :: starEach es X.env := by rfl) : DA X g W (e :: es) (mCons m ms) := da_cons h hs hst
theorem e_slice {lo hi : Option Expr} {ml mh : M (Option Int)} (C : Wf qr P w K mg base k N sc X g W) (he : DE X g W e m) (hl : DO X g W lo ml) (hu : DO X g W hi mh) : DE X g W (.Subscript e (.Slice lo hi none p2) pos) (mSl m ml mh) := de_slice C.gK he hl hu
/-- a built-in function's rule -/
structure Blt (X : Cx) (g : Gh) (x : Str) (F : List D → Option Cell) : Prop where
  ex : ∃ id r, CallR X (.builtin id) r ∧ PureN g r F ∧ bootBuiltins x = some (.builtin id)
structure BltT (X : Cx) (g : Gh) (x : Str) (F : List D → Option Cell) : Prop where
  ex : ∃ T r, CallR X (.type T) r ∧ PureN g r F ∧ bootBuiltins x = some (.type T)
theorem b_len (C : Wf qr P w K mg base k N sc X g W) : Blt X g "len" (one dLen) := ⟨_, _, call_len, by rw [← C.gK]; exact pn_len, boot_len⟩
theorem b_abs (C : Wf qr P w K mg base k N sc X g W) : Blt X g "abs" (one dAbs) := ⟨_, _, call_abs, pn_abs, by decide +kernel⟩
theorem b_max (C : Wf qr P w K mg base k N sc X g W) : Blt X g "max" (two dMax) := ⟨_, _, call_max2 C.cm, pn_max, by decide +kernel⟩
theorem b_min (C : Wf qr P w K mg base k N sc X g W) : Blt X g "min" (two dMin) := ⟨_, _, call_min2 C.cm, pn_min, by decide +kernel⟩
theorem b_all (C : Wf qr P w K mg base k N sc X g W) : Blt X g "all" (one dAll) := ⟨_, _, cr_all C.cm, by rw [← C.gK]; exact pn_all, by decide +kernel⟩
theorem b_repr (C : Wf true P w K mg base k N sc X g W) : Blt X g "repr" (one dRepr) := ⟨_, _, call_show C.rm (C.gd rfl), by rw [← C.gK]; exact pn_repr, by decide +kernel⟩
theorem b_list (C : Wf qr P w K mg base k N sc X g W) : BltT X g "list" (one dList) := ⟨_, _, call_list_of, by rw [← C.gK]; exact pn_list, boot_list⟩
theorem e_blt {F : List D → Option Cell} (C : Wf qr P w K mg base k N sc X g W) (h : Blt X g x F) (hm : mg x = none) (ha : DA X g W (e :: es) ms) (hg : sc.names.lookup x = some .globalImplicit := by rfl)
    (hn : x ≠ "__name__" := by decide) (hdb : (x == ("__debug__" : Str)) = false := by decide) (he : starEach (e :: es) X.env = (false, eval e X.env) :: starEach es X.env := by rfl) (hpl : (backTo pos (starEach es X.env)).any (·.1) = false := by rfl) :
    DE X g W (.Call (.Name x p) (e :: es) [] pos) (mCallB ms F) := by
  obtain ⟨id, r, hc, hp, hv⟩ := h.ex
  exact de_callB hc hp (C.gl hg) (by rw [C.m]; exact hm) hv ha hn hdb he hpl
theorem e_bltT {F : List D → Option Cell} (C : Wf qr P w K mg base k N sc X g W) (h : BltT X g x F) (hm : mg x = none) (ha : DA X g W (e :: es) ms) (hg : sc.names.lookup x = some .globalImplicit := by rfl)
    (hn : x ≠ "__name__" := by decide) (hdb : (x == ("__debug__" : Str)) = false := by decide) (he : starEach (e :: es) X.env = (false, eval e X.env) :: starEach es X.env := by rfl) (hpl : (backTo pos (starEach es X.env)).any (·.1) = false := by rfl) :
    DE X g W (.Call (.Name x p) (e :: es) [] pos) (mCallB ms F) := by
  obtain ⟨T, r, hc, hp, hv⟩ := h.ex
  exact de_callTy hc hp (C.gl hg) (by rw [C.m]; exact hm) hv ha hn hdb he hpl
theorem e_call {f : Addr} {F : FM} (C : Wf qr P w K mg base k N sc X g W) (Dd : FnD qr' P w K mg base k' f g F) (hm : mg x = some (.ref f)) (kp : PySem.W.keepIn K (.ref f) = true) (ha : DA X g W (e :: es) ms) (hq : qr' = true → qr = true := by decide) (hk : k' ≤ k := by decide) (hg : sc.names.lookup x = some .globalImplicit := by rfl)
    (hdb : (x == ("__debug__" : Str)) = false := by decide) (he : starEach (e :: es) X.env = (false, eval e X.env) :: starEach es X.env := by rfl) (hpl : (backTo pos (starEach es X.env)).any (·.1) = false := by rfl) : DE X g W (.Call (.Name x p) (e :: es) [] pos) (M.bind ms (callM F)) :=
  de_callD C Dd hq hk hm kp hg ha hdb he hpl
theorem s_set {v : Expr} {m : M Opn} (C : Wf qr P w K mg base k N sc X g W) (i : Nat) (he : DE X g W v m) (hN : N[i]? = some x := by rfl) (hx : sc.names.lookup x = some .local := by rfl) (hs : swapsWith v (some (.Name x p)) pos.line X.env = pure false := by rfl) : DS X g W (.Assign [.Name x p] v pos) (sAsg m (setSl i)) :=
  ds_set C.nd (by rw [C.N]; exact hN) (.inl (C.loc x hx)) (.inr (C.loc x hx)) he hs
theorem s_put {v ix : Expr} {mi mv : M Opn} (C : Wf qr P w K mg base k N sc X g W) (i : Nat) (hi : DE X g W ix mi) (he : DE X g W v mv) (hN : N[i]? = some x := by rfl) (hv : sc.names.lookup x = some .local ∨ sc.names.lookup x = some .cell ∨ sc.names.lookup x = some .free := by first | exact .inl rfl | exact .inr (.inl rfl) | exact .inr (.inr rfl))
    (hd : (x == ("__debug__" : Str)) = false := by decide) (hcd : (x == ("__classdict__" : Str)) = false := by decide)
    (ha : ∀ u, assign (.Subscript (.Name x p) ix spos) X.env u = (do
      let ov ← holding [u] (eval (.Name x p) X.env)
      let iv ← holding [u, ov] (eval ix X.env)
      standAt spos
      holding [u, ov, iv] (setItem ov iv u)
      release [u, ov, iv] []) := by intro _; rfl)
    (hs : swapsWithSole [.Subscript (.Name x p) ix spos] v pos.line X.env = pure false := by rfl) (hw : swappedStores [.Subscript (.Name x p) ix spos] v X.env = pure none := by rfl)
    (h1 : (assignEach [.Subscript (.Name x p) ix spos] X.env).map (·.2) = [assign (.Subscript (.Name x p) ix spos) X.env] := by rfl) : DS X g W (.Assign [.Subscript (.Name x p) ix spos] v pos) (sExpr (mPut fSetIx i mi mv)) :=
  ds_put set_list pr_setL (by rw [C.N]; exact hN) (C.vis hv) hd hcd hi he ha hs hw h1
theorem s_if {tc : M Bool} {xs ys : List Stmt} {m1 m2 : SM} (C : Wf qr P w K mg base k N sc X g W) (hc : DT X g W c tc) (ha : DSs X g W xs m1) (hb : DSs X g W ys m2) : DS X g W (.If c xs ys pos) (sIf tc m1 m2) := ds_if hc ha hb
end
end Ov


set_option Elab.async false
set_option linter.all false
set_option maxRecDepth 100000
set_option maxHeartbeats 4000000
namespace Ov
open PySem PySem.Spec PyProof.Rows L2

/-! ### what a term comes to, from the left: one lemma a combinator -/
section
variable {α β : Type} {m : M α} {f : α → M β} {a : α} {S S1 S2 S3 : Sta} {r : Res β} {x : Exn} {ma mb mc me : M Opn} {ms : M (List Opn)} {o p q : Opn} {os : List Opn} {d e d' : D} {ds : List D} {c : Cell} {F G : D → D → Option Cell} {F1 : D → Option Cell} {FL : List D → Option Cell} {b : Bool} {i : Nat} {R : SR} {s1 s2 : SM} {t t2 : M Bool} {am : AM}
theorem v_bind (h : m S = .ok a S1) (k : f a S1 = r) : M.bind m f S = r := by unfold M.bind; rw [h]; exact k
theorem v_slot (h : S.sl[i]? = some (some c)) : mSlot i S = .ok (.s i) S := by unfold mSlot; rw [h]
theorem v_val : mVal d S = .ok (.v ⟨false, d⟩) S := rfl
theorem v_op (h1 : ma S = .ok o S1) (h2 : mb S1 = .ok p S2) (e1 : curD S2 o = some d) (e2 : curD S2 p = some e) (k : F d e = some c) : m2 ma mb (pure2 F) S = .ok (.v c) S2 :=
  v_bind h1 (v_bind h2 (by unfold pure2; rw [e1, e2]; simp only [Option.bind_some]; rw [k]))
theorem v_un (h1 : ma S = .ok o S1) (e1 : curD S1 o = some d) (k : F1 d = some c) : m1 ma (pure1 F1) S = .ok (.v c) S1 := v_bind h1 (by unfold pure1; rw [e1]; simp only [Option.bind_some]; rw [k])
theorem v_nil : mNil S = .ok [] S := rfl
theorem v_cons (h1 : ma S = .ok o S1) (h2 : ms S1 = .ok os S2) : mCons ma ms S = .ok (o :: os) S2 := v_bind h1 (v_bind h2 rfl)
theorem v_blt (h1 : ms S = .ok os S1) (h2 : os.mapM (curD S1) = some ds) (k : FL ds = some c) : mCallB ms FL S = .ok (.v c) S1 := v_bind h1 (by unfold pureN; rw [h2]; simp only [Option.bind_some]; rw [k])
theorem v_list (h1 : ms S = .ok os S1) (h2 : os.mapM (curD S1) = some ds) (k : mkL os S1 = .ok o S2) : mList ms S = .ok o S2 := v_bind h1 k
theorem v_test (h1 : ma S = .ok o S1) (e1 : curD S1 o = some (.bl b)) : mTest ma S = .ok b S1 := v_bind h1 (by rw [e1])
/-! statements -/
theorem v_next : sNext S = .nx S := rfl
theorem v_seq (h : s1 S = .nx S1) (k : s2 S1 = R) : sSeq s1 s2 S = R := by unfold sSeq; rw [h]; exact k
theorem v_seqR (h : s1 S = .rt c S1) : sSeq s1 s2 S = .rt c S1 := by unfold sSeq; rw [h]
theorem v_seqX (h : s1 S = .exc x S1) : sSeq s1 s2 S = .exc x S1 := by unfold sSeq; rw [h]
theorem v_ifT (h : t S = .ok b S1) (hb : b = true) (k : s1 S1 = R) : sIf t s1 s2 S = R := by unfold sIf; rw [h]; dsimp only; rw [if_pos hb]; exact k
theorem v_ifF (h : t S = .ok b S1) (hb : b = false) (k : s2 S1 = R) : sIf t s1 s2 S = R := by unfold sIf; rw [h]; dsimp only; rw [if_neg (by rw [hb]; exact Bool.false_ne_true)]; exact k
theorem v_expr (h : ma S = .ok o S1) : sExpr ma S = .nx S1 := by unfold sExpr; rw [h]
theorem v_ret (h : ma S = .ok o S1) (k : takeC S1 o = some (c, S2)) : sRet ma S = .rt c S2 := by unfold sRet; rw [h]; dsimp only; rw [k]
theorem v_asg (h : ma S = .ok o S1) (k : takeC S1 o = some (c, S2)) (k2 : am c S2 = some S3) : sAsg ma am S = .nx S3 := by unfold sAsg; rw [h]; dsimp only; rw [k]; dsimp only; rw [k2]
theorem v_put {FP : D → D → D → Option D} {d0 d1 : D} (h1 : mb S = .ok o S1) (g1 : S1.sl[i]? = some (some ⟨true, d0⟩)) (h2 : ma S1 = .ok p S2) (e1 : curD S2 p = some d) (e2 : curD S2 o = some e) (g2 : (frzL S2 [p, o]).sl[i]? = some (some ⟨true, d1⟩)) (k : FP d1 d e = some d') :
    mPut FP i ma mb S = .ok (.v ⟨false, .non⟩) (mutS (frzL S2 [p, o]) i d') := by
  refine v_bind h1 ?_
  rw [g1]
  refine v_bind h2 ?_
  rw [e1]
  dsimp only
  rw [e2]
  dsimp only
  rw [g2]
  dsimp only
  rw [k]
theorem v_body {np n cnt cnt2 : Nat} {cs fin : List Cell} (hl : cs.length = np) (h : s1 (entry cs n cnt) = .rt c S1) (hf : fins cs S1 = fin) (hc : S1.cnt = cnt2) : bodyF np n s1 cs cnt = .ok c fin cnt2 := by
  unfold bodyF
  rw [if_pos hl, h]
  dsimp only
  rw [hf, hc]
theorem v_bodyN {np n cnt cnt2 : Nat} {cs fin : List Cell} (hl : cs.length = np) (h : s1 (entry cs n cnt) = .nx S1) (hf : fins cs S1 = fin) (hc : S1.cnt = cnt2) : bodyF np n s1 cs cnt = .ok ⟨false, .non⟩ fin cnt2 := by
  unfold bodyF
  rw [if_pos hl, h]
  dsimp only
  rw [hf, hc]
theorem v_bodyX {np n cnt cnt2 : Nat} {cs fin : List Cell} (hl : cs.length = np) (h : s1 (entry cs n cnt) = .exc x S1) (hf : fins cs S1 = fin) (hc : S1.cnt = cnt2) : bodyF np n s1 cs cnt = .exc x fin cnt2 := by
  unfold bodyF
  rw [if_pos hl, h]
  dsimp only
  rw [hf, hc]
end
/-! operators on numbers -/
section
variable {a b : Int}
theorem dAdd_i : dAdd (.int a) (.int b) = some ⟨false, .int (a + b)⟩ := rfl
theorem dSub_i : dSub (.int a) (.int b) = some ⟨false, .int (a - b)⟩ := rfl
theorem dMul_i (h : a.natAbs.log2 + b.natAbs.log2 < 1000000) : dMul (.int a) (.int b) = some ⟨false, .int (a * b)⟩ := by show (if _ then _ else _) = _; rw [if_pos h]; rfl
theorem dMod_i (h : 0 < b) : dMod (.int a) (.int b) = some ⟨false, .int (a % b)⟩ := by show (if _ then _ else _) = _; rw [if_pos h]; rfl
theorem dFdiv_i (h : 0 < b) (h2 : b.natAbs.log2 < 9000) : dFdiv (.int a) (.int b) = some ⟨false, .int (a / b)⟩ := by show (if _ then _ else _) = _; rw [if_pos ⟨h, h2⟩]; rfl
theorem dPow_i (h : 0 ≤ b) (h2 : (Builtin.Int.intBits a : Int) * b ≤ 2 ^ 27) : dPow (.int a) (.int b) = some ⟨false, .int (a ^ b.toNat)⟩ := by show (if _ then _ else _) = _; rw [if_pos ⟨h, h2⟩]; rfl
theorem dGt_i : dGt (.int a) (.int b) = some ⟨false, .bl (decide (b < a))⟩ := rfl
theorem dLt_i : dLt (.int a) (.int b) = some ⟨false, .bl (decide (a < b))⟩ := rfl
theorem dLe_i : dLe (.int a) (.int b) = some ⟨false, .bl (decide (a ≤ b))⟩ := rfl
end
end Ov


set_option Elab.async false
set_option linter.all false
set_option maxRecDepth 100000
set_option maxHeartbeats 4000000
namespace Ov
open PySem PySem.Spec PyProof.Rows L2
section
variable {P : Program} {w : World} {K : PySem.W.Frag} {mg : Str → Option Value} {base : Heap} {k k' : Nat} {g : Gh} {qr qr' : Bool} {X : Cx} {W : WX} {N : List Str} {sc : Scope} {pos p p0 p2 apos spos py : Pos} {a b c e o elt tg iter : Expr} {es ifs : List Expr} {ma mb mc m mo : M Opn} {ms : M (List Opn)}
  {x y : Str} {scope : Scope} {own : List (Str × Nat)} {mi : M (List D)} {am : AM} {L : List Nat} {tst t1 t2 : M Bool} {me : M Opn} {body : List Stmt} {m1 : SM} {F : Str → D → Option Cell}
theorem e_list (C : Wf qr P w K mg base k N sc X g W) (h : DA X g W es ms) : DE X g W (.List es pos) (mList ms) := de_list h
theorem e_tup {j : Nat} (C : Wf qr P w K mg base k N sc X g W) (h : DA X g W es ms) : DE X g W (.Tuple es j pos) (mTup ms) := de_tup h
theorem e_not (C : Wf qr P w K mg base k N sc X g W) (h : DE X g W a ma) : DE X g W (.UnaryOp .Not a pos) (mNot ma) := de_not C.gK h
theorem e_and {rest : List Expr} (C : Wf qr P w K mg base k N sc X g W) (ha : DE X g W a ma) (hb : DE X g W (.BoolOp .And (b :: rest) pos) mb) : DE X g W (.BoolOp .And (a :: b :: rest) pos) (mAnd ma mb) := de_and C.gK ha hb
theorem e_or {rest : List Expr} (C : Wf qr P w K mg base k N sc X g W) (ha : DE X g W a ma) (hb : DE X g W (.BoolOp .Or (b :: rest) pos) mb) : DE X g W (.BoolOp .Or (a :: b :: rest) pos) (mOr ma mb) := de_or C.gK ha hb
theorem i_src (C : Wf qr P w K mg base k N sc X g W) (h : DE X g W e m) : DI X g W tg e (mSrc m) := di_src C.gK h
theorem i_range1 (C : Wf qr P w K mg base k N sc X g W) (hm : mg "range" = none) (ha : DA X g W [a] ms) (hg : sc.names.lookup ("range" : Str) = some .globalImplicit := by rfl) (hs : starEach [a] X.env = [(false, eval a X.env)] := by rfl) : DI X g W tg (.Call (.Name "range" p) [a] [] pos) (mRange1 ms) :=
  di_range1 (C.gl hg) (by rw [C.m]; exact hm) ha hs
theorem i_enum {elts : List Expr} {kk : Nat} {tpos : Pos} (C : Wf qr P w K mg base k N sc X g W) (hm : mg "enumerate" = none) (ha : DA X g W [e] ms) (hg : sc.names.lookup ("enumerate" : Str) = some .globalImplicit := by rfl) (hs : starEach [e] X.env = [(false, eval e X.env)] := by rfl) :
    DI X g W (.Tuple elts kk tpos) (.Call (.Name "enumerate" p) [e] [] pos) (mEnum ms) := di_enum (C.gl hg) (by rw [C.m]; exact hm) ha hs
theorem g_name (C : Wf qr P w K mg base k N sc X g W) (i : Nat) (hN : N[i]? = some x := by rfl) (hx : sc.names.lookup x = some .local ∨ sc.names.lookup x = some .cell := by first | exact .inl rfl | exact .inr rfl) : DG X g [i] (.Name x pos) (setSl i) :=
  dg_name i C.nd (by rw [C.N]; exact hN) (C.lc hx) (hx.elim (fun h => .inr (C.loc x h)) fun h => .inl (C.fnc x h))
theorem s_setC {v : Expr} {m : M Opn} (C : Wf qr P w K mg base k N sc X g W) (i : Nat) (he : DE X g W v m) (hN : N[i]? = some x := by rfl) (hx : sc.names.lookup x = some .cell := by rfl) (hs : swapsWith v (some (.Name x p)) pos.line X.env = pure false := by rfl) : DS X g W (.Assign [.Name x p] v pos) (sAsg m (setSl i)) :=
  ds_set C.nd (by rw [C.N]; exact hN) (.inr (C.cel x hx)) (.inl (C.fnc x hx)) he hs
/-- name = [comp], the name a cell: nothing is swapped -/
theorem s_setCLc {ctx : List Comprehension} {m : M Opn} (C : Wf qr P w K mg base k N sc X g W) (i : Nat) (he : DE X g W (.ListComp elt ctx scope p2) m) (hN : N[i]? = some x := by rfl) (hx : sc.names.lookup x = some .cell := by rfl) : DS X g W (.Assign [.Name x p] (.ListComp elt ctx scope p2) pos) (sAsg m (setSl i)) := by
  refine ds_set C.nd (by rw [C.N]; exact hN) (.inr (C.cel x hx)) (.inl (C.fnc x hx)) he ?_
  have e : X.env.kindOf x = some .cell := C.cel x hx
  show (pure (X.env.blockKind == .function && X.env.kindOf x == some .local && p.line == p2.line && !(scope.names.any fun (n, k) => n == x && (k == .local || k == .cell))) : Sem Bool) = pure false
  rw [e]
  have z : ((some NameKind.cell == some NameKind.local) : Bool) = false := by decide
  rw [z, Bool.and_false, Bool.false_and, Bool.false_and]
theorem e_lc (C : Wf qr P w K mg base k N sc X g W) (own : List (Str × Nat)) (hi : DI X g W tg iter mi) (hg : ∀ X', Wf qr P w K mg base k N scope X' g W0 → DG X' g L tg am) (ht : ∀ X', Wf qr P w K mg base k N scope X' g W0 → DTs X' g W0 ifs tst)
    (he : ∀ X', Wf qr P w K mg base k N scope X' g W0 → DE X' g W0 elt me) (bo : BOk N sc scope own := by exact ⟨rfl, by decide +kernel, by decide +kernel, by decide +kernel, by decide +kernel⟩) (hL : ∀ i ∈ L, i ∈ own.map (·.2) := by decide) (hs : ∀ x, foldedSetIterable iter X.env x = pure x := by intro _; rfl) :
    DE X g W (.ListComp elt [⟨tg, iter, ifs, 0⟩] scope pos) (mLC mi am tst me (own.map (·.2))) := de_lc C hi bo hL hg ht he hs
theorem s_setLc (C : Wf qr P w K mg base k N sc X g W) (i : Nat) (own : List (Str × Nat)) (hi : DI X g W tg iter mi) (hg : ∀ X', Wf qr P w K mg base k N scope X' g W0 → DG X' g L tg am) (ht : ∀ X', Wf qr P w K mg base k N scope X' g W0 → DTs X' g W0 ifs tst)
    (he : ∀ X', Wf qr P w K mg base k N scope X' g W0 → DE X' g W0 elt me) (hy : N[i]? = some y := by rfl) (hyl : sc.names.lookup y = some .local := by rfl) (same : (py.line == pos.line && !(scope.names.any fun (n, k) => n == y && (k == .local || k == .cell))) = true := by decide +kernel)
    (bo : BOk N sc scope own := by exact ⟨rfl, by decide +kernel, by decide +kernel, by decide +kernel, by decide +kernel⟩) (hL : ∀ i ∈ L, i ∈ own.map (·.2) := by decide) (hs : ∀ x, foldedSetIterable iter X.env x = pure x := by intro _; rfl) :
    DS X g W (.Assign [.Name y py] (.ListComp elt [⟨tg, iter, ifs, 0⟩] scope pos) spos) (sAsg (mLC mi am tst me (own.map (·.2))) (setSl i)) := by
  refine ds_setLc C hy hyl hi bo hL hg ht he (fun h => ?_) hs
  have e : X.env.kindOf y = some .local := h
  have kd : X.env.blockKind = .function := by unfold Env.blockKind; rw [C.kd]; rfl
  show (pure (X.env.blockKind == .function && X.env.kindOf y == some .local && py.line == pos.line && !(scope.names.any fun (n, k) => n == y && (k == .local || k == .cell))) : Sem Bool) = pure true
  rw [e, kd, Bool.and_assoc, same]
  rfl
theorem s_for (C : Wf qr P w K mg base k N sc X g W) (hi : DI X g W tg iter mi) (hg : DG X g L tg am) (hb : DSs X g W body m1) (hs : ∀ x, foldedSetIterable iter X.env x = pure x := by intro _; rfl) : DS X g W (.For tg iter body [] pos) (sFor mi am m1) := ds_for C.po C.cm hi hg hb hs
theorem s_append (C : Wf qr P w K mg base k N sc X g W) (i : Nat) (ha : DA X g W (e :: es) ms) (hN : N[i]? = some x := by rfl) (hv : sc.names.lookup x = some .local ∨ sc.names.lookup x = some .cell ∨ sc.names.lookup x = some .free := by first | exact .inl rfl | exact .inr (.inl rfl) | exact .inr (.inr rfl))
    (hd : (x == ("__debug__" : Str)) = false := by decide) (hcd : (x == ("__classdict__" : Str)) = false := by decide) (hbase : attributeBase (.Name x p) "append" X.env (eval (.Name x p) X.env) = eval (.Name x p) X.env := by rfl)
    (hfew : ((backTo pos (starEach (e :: es) X.env)).all (fun x => !x.1) && (backToKw pos (keywordEach [] X.env)).all (fun x => x.1.isSome) && decide ((e :: es).length + ([] : List Keyword).length + (if ([] : List Keyword).isEmpty then 0 else 1) < 30)) = true := by rfl)
    (hline : (apos.endLine == pos.line) = true := by rfl) (hs : starEach (e :: es) X.env = (false, eval e X.env) :: starEach es X.env := by rfl) (hplain : (backTo pos (starEach es X.env)).any (·.1) = false := by rfl) (hsw : swapsWith (.Call (.Attribute (.Name x p) "append" apos) (e :: es) [] pos) none spos.line X.env = pure false := by rfl) :
    DS X g W (.Expr (.Call (.Attribute (.Name x p) "append" apos) (e :: es) [] pos) spos) (sExpr (mMut "list" fAppend i ms)) :=
  ds_expr (de_mut C.gK PySem.F.plainAttrs_list PySem.F.slot_list_append PySem.F.type_list_append mt_append mr_append (by rw [C.N]; exact hN) (C.vis hv) hd hcd ha hbase hfew hline hs hplain) hsw
theorem e_join (C : Wf qr P w K mg base k N sc X g W) (ho : DE X g W o mo) (he : DE X g W e me) (hs : starEach [e] X.env = [(false, eval e X.env)] := by rfl) (hbase : attributeBase o "join" X.env (eval o X.env) = eval o X.env := by rfl) (hline : (apos.endLine == pos.line) = true := by rfl) :
    DE X g W (.Call (.Attribute o "join" apos) [e] [] pos) (mM1 dJoin mo me) := de_m1 PySem.F.slot_str_join PySem.F.type_str_join mt_join (by rw [← C.gK]; exact pm_join) ho he hs hbase hline
end
end Ov


set_option Elab.async false
set_option linter.all false
set_option maxRecDepth 100000
set_option maxHeartbeats 4000000
namespace Ov
open PySem PySem.Spec PyProof.Rows L2
section
variable {P : Program} {w : World} {K : PySem.W.Frag} {mg : Str → Option Value} {base : Heap} {k k' : Nat} {g : Gh} {qr qr' : Bool} {X : Cx} {W : WX} {N : List Str} {sc : Scope} {pos p p0 p2 q apos spos py pos' np : Pos} {a b c e o : Expr} {es : List Expr} {ma mb mc m mo : M Opn} {ms : M (List Opn)}
  {x y : Str} {f cA pr : Addr} {F : FM}
/-- isinstance(.., T), T a built-in type: of built-in values alone -/
def tyTest (T : String) : Tag → Option Bool
  | .ty n => kitB n T
  | .own _ => none
theorem isi_ty {T : String} : Isi g (.type T) (tyTest T) := ⟨fun n b h => kit_ty h, fun C b c h => nomatch h⟩
theorem b_isi {T : String} {test : Tag → Option Bool} (C : Wf qr P w K mg base k N sc X g W) (h : Isi g (.type T) test) : Blt X g "isinstance" (two (dIsiTy T test)) :=
  ⟨"isinstance", _, fun pins s σ H xs us Q I r z => by
    obtain ⟨x1, e1, z1⟩ := z
    subst e1
    exact call_isi pins s σ H _ us Q I r (by rw [← C.gK]; exact z1), pn_isiTy h, by decide +kernel⟩
theorem b_isiC {Cn : Str} {test : Tag → Option Bool} (C : Wf qr P w K mg base k N sc X g W) (h : ∀ c, g.mg Cn = some (.ref c) → Isi g (.ref c) test) : Blt X g "isinstance" (two (dIsiOwn Cn test)) := ⟨"isinstance", _, call_isi, by rw [← C.gK]; exact pn_isiOwn h, by decide +kernel⟩
/-- a built-in type by its name -/
theorem e_type {T : String} (C : Wf qr P w K mg base k N sc X g W) (hm : mg x = none) (hv : bootBuiltins x = some (.type T)) (hg : sc.names.lookup x = some .globalImplicit := by rfl) (hn : x ≠ "__name__" := by decide) (hd : (x == ("__debug__" : Str)) = false := by decide) :
    DE X g W (.Name x pos) (mVal (.op (.ty T))) := de_bltn (d := .op (.ty T)) (C.gl hg) (by rw [C.m]; exact hm) hv rfl rfl hn hd
/-- a number or a text of the module -/
theorem e_glob {d : D} (C : Wf qr P w K mg base k N sc X g W) (hm : ∃ u, mg x = some u ∧ RelV (vOf d) u) (hf : flat d = true := by rfl) (hg : sc.names.lookup x = some .globalImplicit := by rfl) (hd : (x == ("__debug__" : Str)) = false := by decide) : DE X g W (.Name x pos) (mVal d) :=
  de_glob (C.gl hg) (by rw [C.m]; exact hm) hf hd
theorem e_cls (C : Wf qr P w K mg base k N sc X g W) (hm : mg x = some (.ref cA)) (hg : sc.names.lookup x = some .globalImplicit := by rfl) (hd : (x == ("__debug__" : Str)) = false := by decide) : DE X g W (.Name x p) (mVal (.cls x)) := de_cls C hm hg hd
theorem e_sized (C : Wf qr P w K mg base k N sc X g W) (zl : mg "len" = none) (zs : mg "set" = none) (he : DE X g W e m) (gl : sc.names.lookup ("len" : Str) = some .globalImplicit := by rfl) (gs : sc.names.lookup ("set" : Str) = some .globalImplicit := by rfl) (one : starEach [e] X.env = (false, eval e X.env) :: starEach [] X.env := by rfl) :
    DE X g W (.Call (.Name "len" p) [.Call (.Name "set" p2) [e] [] q] [] pos) (M.bind m (pure1 dLenSet)) := de_sized C.gK C.cm (C.gl gl) (by rw [C.m]; exact zl) (C.gl gs) (by rw [C.m]; exact zs) he one
theorem e_fld {cs : List Str} {fl : Str} (C : Wf qr P w K mg base k N sc X g W) (B : Bears g cs fl) (he : DE X g W e m) (hb : attributeBase e fl X.env (eval e X.env) = eval e X.env := by rfl) : DE X g W (.Attribute e fl pos) (M.bind m (pure1 (dFld cs fl))) := de_fld C.gK B he hb
theorem s_fld {cs : List Str} {fl : Str} (C : Wf qr P w K mg base k N sc X g W) (i : Nat) (B : Bears g cs fl) (he : DE X g W e m) (hN : N[i]? = some x := by rfl) (hv : sc.names.lookup x = some .local ∨ sc.names.lookup x = some .cell ∨ sc.names.lookup x = some .free := by first | exact .inl rfl | exact .inr (.inl rfl) | exact .inr (.inr rfl))
    (hd : (x == ("__debug__" : Str)) = false := by decide) (hcd : (x == ("__classdict__" : Str)) = false := by decide) (hs : swapsWith e (some (.Attribute (.Name x p) fl pos')) pos.line X.env = pure false := by rfl) : DS X g W (.Assign [.Attribute (.Name x p) fl pos'] e pos) (sExpr (mSetF cs fl i m)) :=
  ds_fld C.gK B (by rw [C.N]; exact hN) (C.vis hv) hd hcd he hs
theorem s_raise {j : Nat} {t : Str} (C : Wf qr P w K mg base k N sc X g W) (h : Own K mg x) (hg : sc.names.lookup x = some .globalImplicit := by rfl) (hd : (x == ("__debug__" : Str)) = false := by decide) : DS X g W (.Raise (some (.Call (.Name x p) [.Constant (.str t) j p2] [] pos)) none pos') (sRaise x) := ds_raise C h hg hd
theorem e_cmeth {mc : Value} {mt : Str} (C : Wf qr P w K mg base k N sc X g W) (hm : mg x = some (.ref cA)) (rd : ClX.CRead K cA mc) (cm : ClX.CMet K cA mc mt pr f) (Dd : FnD qr' P w K mg base k' f g F) (ha : DA X g W (e :: es) ms) (hq : qr' = true → qr = true := by decide) (hk : k' ≤ k := by decide)
    (hg : sc.names.lookup x = some .globalImplicit := by rfl) (hd : (x == ("__debug__" : Str)) = false := by decide) (hst : starEach (e :: es) X.env = (false, eval e X.env) :: starEach es X.env := by rfl) (hpl : (backTo pos (starEach es X.env)).any (·.1) = false := by rfl)
    {pl : Sem Bool} (ht : eval (.Call (.Attribute (.Name x p0) mt apos) (e :: es) [] pos) X.env = (do
      let ov ← eval (.Name x p0) X.env
      standAt apos.atName
      let (f, first) ← holding [ov] (getMethod ov mt pl)
      callWith pos f first (backTo pos (starEach (e :: es) X.env)) (backToKw pos (keywordEach [] X.env))) := by rfl) :
    DE X g W (.Call (.Attribute (.Name x p0) mt apos) (e :: es) [] pos) (mCls x F ms) := de_cmeth C hm hg hd rd cm Dd hq hk ha hst hpl ht
theorem e_newS {sp_ : Pos} (C : Wf qr P w K mg base k N sc X g W) (Mc : Mk K cA f) (Dd : FnD false P w K mg base k' f g F) (hm : mg x = some (.ref cA)) (he : DE X g W e mo) (hk : k' + 1 ≤ k := by decide) (hg : sc.names.lookup x = some .globalImplicit := by rfl)
    (hd : (x == ("__debug__" : Str)) = false := by decide) (hst : starEach [.Starred e sp_] X.env = [(true, eval e X.env)] := by rfl) : DE X g W (.Call (.Name x p) [.Starred e sp_] [] pos) (M.bind mo fun o => M.bind (spread o) (callM (newF x F))) := de_newS C Mc Dd hk hm hg he hd hst
theorem e_new (C : Wf qr P w K mg base k N sc X g W) (Mc : Mk K cA f) (Dd : FnD false P w K mg base k' f g F) (hm : mg x = some (.ref cA)) (ha : DA X g W (e :: es) ms) (hk : k' + 1 ≤ k := by decide) (hg : sc.names.lookup x = some .globalImplicit := by rfl)
    (hd : (x == ("__debug__" : Str)) = false := by decide) (he : starEach (e :: es) X.env = (false, eval e X.env) :: starEach es X.env := by rfl) (hpl : (backTo pos (starEach es X.env)).any (·.1) = false := by rfl) : DE X g W (.Call (.Name x p) (e :: es) [] pos) (M.bind ms (callM (newF x F))) := de_newD C Mc Dd hk hm hg ha hd he hpl
end
end Ov


set_option Elab.async false
set_option linter.all false
set_option maxRecDepth 100000
set_option maxHeartbeats 4000000
namespace Ov
open PySem PySem.Spec PyProof.Rows L2
section
variable {P : Program} {w : World} {K : PySem.W.Frag} {mg : Str → Option Value} {base : Heap} {k k' : Nat} {g : Gh} {qr qr' : Bool} {X : Cx} {W : WX} {N : List Str} {sc : Scope} {pos p p0 p2 q apos spos py pos' np px pz pt pt2 : Pos} {kt k2 : Nat} {a b c e o tg : Expr} {es : List Expr} {ma mb mc m mo : M Opn} {ms : M (List Opn)}
  {x y z u : Str} {f cA pr : Addr} {F : FM} {am : AM} {ams : List D → Sta → Option Sta} {L L' : List Nat} {cs : List Str}
theorem e_prop {fd : FuncData} {ps : List Str} (C : Wf qr P w K mg base k N sc X g W) (facts : ∀ Cn c, Cn ∈ cs → mg Cn = some (.ref c) → Cls K c ∧ ∃ pr, PropOf K c u pr f) (G : FnG false P w K mg base k' f fd ps (spF g 1 F)) (hb : Binds K fd ps []) (he : DE X g W e mo) (hk : k' + 1 ≤ k := by decide)
    (hab : attributeBase e u X.env (eval e X.env) = eval e X.env := by rfl) : DE X g W (.Attribute e u pos) (mProp cs F mo) := de_prop (np := 0) (n := 0) (mb := sNext) C facts G hb hk he hab
theorem e_ownAdd (C : Wf qr P w K mg base k N sc X g W) (ad : ∀ Cn c, Cn ∈ cs → mg Cn = some (.ref c) → Adds K c f .Add) (Dd : FnD qr' P w K mg base k' f g F) (ha : DE X g W a ma) (hb : DE X g W b mb) (hq : qr' = true → qr = true := by decide) (hk : k' ≤ k := by decide) : DE X g W (.BinOp a .Add b pos) (mOwnOp cs F ma mb) := de_ownOp C ad Dd hq hk ha hb
theorem e_lenI (C : Wf qr P w K mg base k N sc X g W) (lf : ∀ Cn c, Cn ∈ cs → mg Cn = some (.ref c) → Lens K c f) (Dd : FnD false P w K mg base k' f g F) (zl : mg "len" = none) (he : DE X g W e m) (hk : k' + 1 ≤ k := by decide) (gl : sc.names.lookup ("len" : Str) = some .globalImplicit := by rfl)
    (one : starEach [e] X.env = (false, eval e X.env) :: starEach [] X.env := by rfl) : DE X g W (.Call (.Name "len" p) [e] [] pos) (mLenI cs F m) := de_lenI (pl := pos) C lf Dd hk gl zl he one
theorem t_same1 (C : Wf qr P w K mg base k N sc X g W) (pl : ∀ Cn c, Cn ∈ cs → mg Cn = some (.ref c) → Plain K c) (ha : DE X g W a ma) (hb : DE X g W b mb) (hm : behindInMarks .Eq b = false := by with_unfolding_all rfl) : DT X g W (.Compare a [.Eq] [b] pos) (mTest (mSame cs ma mb)) := by
  have eg : g.K = X.K := C.gK
  refine pt_imp (pt_cmpR (op_same C.rm.units0) ha hb hm) (t_test fun σ H Q q => ?_)
  rw [← eg]
  exact t_same (fun Cn c h z => by rw [eg, C.K]; exact pl Cn c h (by rw [← C.m, ← C.gm]; exact z)) σ H Q q
theorem gs_nil (C : Wf qr P w K mg base k N sc X g W) : DGs X g [] [] asgNil := dgs_nil
theorem gs_cons (C : Wf qr P w K mg base k N sc X g W) (h : DG X g L e am) (hs : DGs X g L' es ams) (hst : (assignEach (e :: es) X.env).map (·.2) = assign e X.env :: (assignEach es X.env).map (·.2) := by rfl) : DGs X g (L ++ L') (e :: es) (asgCons am ams) := dgs_cons h hs hst
theorem g_tup {j n : Nat} (C : Wf qr P w K mg base k N sc X g W) (h : DGs X g L es ams) (hn : (assignEach es X.env).length = n := by rfl) (hst : (assignEach es X.env).findIdx? (·.1) = none := by rfl) : DG X g L (.Tuple es j pos) (asgTup ams n) := dg_tup C.cm h hn hst
/-- a, b = .. where one of the names is a cell: by way of a pair -/
theorem s_asg2 (C : Wf qr P w K mg base k N sc X g W) (he : DE X g W (.Tuple [a, b] k2 pt2) m) (hg : DG X g L (.Tuple [.Name x px, .Name y py] kt pt) am) (cy : sc.names.lookup y = some .cell := by rfl) (kx : sc.names.lookup x = some .local ∨ sc.names.lookup x = some .cell := by first | exact .inl rfl | exact .inr rfl)
    (hs : swapsWithSole [.Tuple [.Name x px, .Name y py] kt pt] (.Tuple [a, b] k2 pt2) pos.line X.env = pure false := by rfl) (hw : X.env.scope.names.lookup y = some .cell → swappedStores [.Tuple [.Name x px, .Name y py] kt pt] (.Tuple [a, b] k2 pt2) X.env = pure none)
    (h1 : (assignEach [.Tuple [.Name x px, .Name y py] kt pt] X.env).map (·.2) = [assign (.Tuple [.Name x px, .Name y py] kt pt) X.env] := by rfl) : DS X g W (.Assign [.Tuple [.Name x px, .Name y py] kt pt] (.Tuple [a, b] k2 pt2) pos) (sAsg m am) := ds_asg he hg hs (hw (C.cel y cy)) h1
theorem s_try {uv : Value} {body suite : List Stmt} {b0 : Stmt} {m1 m2 : SM} {catch_ : Str → Option Bool} (C : Wf qr P w K mg base k N sc X g W) (hs : X.stack = X.env :: X.outer) (hf : X.env.frame = some X.env.locals) (hm : mg x = some uv) (ct : Catch g uv catch_)
    (hb : ∀ X' W', Wf qr P w K mg base k N sc X' g W' → DSs X' g W' body m1) (hsu : ∀ (a : Addr) (pn : List (Addr × Obj)), DSs (X.suite a pn) g W0 (b0 :: suite) m2) (hg : sc.names.lookup x = some .globalImplicit := by rfl) (hd : (x == ("__debug__" : Str)) = false := by decide) :
    DS X g W (.Try body [.ExceptHandler (some (.Name x np)) none (b0 :: suite) pos'] [] [] pos) (sTry m1 catch_ m2) := ds_try C hs hf ⟨C.gl hg, hd, .inl (by rw [C.m]; exact hm)⟩ ct (fun X' W' C' _ _ => hb X' W' C') hsu
theorem o_some (h : DE X g W e m) : DO X g W (some e) (mPart m) := do_some h
end
end Ov


set_option Elab.async false
set_option linter.all false
set_option maxRecDepth 100000
set_option maxHeartbeats 4000000
namespace Ov
open PySem PySem.Spec PyProof.Rows L2
/-! ### lists of texts: ==, in, repr, len(set(..)) -/
abbrev lS (xs : List Str) : D := .lst (xs.map .str)
/-- a text that == may be asked of -/
def Tx (x : Str) : Prop := ∀ c ∈ x.cps.toList, c < 0x110000
theorem py_str {x : Str} : py (.str x) = some (.str x) := by rw [py]
theorem pyL_strs : ∀ {xs : List Str}, pyL (xs.map .str) = some (xs.map .str)
  | [] => by rw [List.map_nil, pyL]; rfl
  | x :: xs => by rw [List.map_cons, pyL, py_str, pyL_strs]; rfl
theorem py_lS {xs : List Str} : py (lS xs) = some (.list (xs.map .str)) := by
  unfold lS
  rw [py, pyL_strs]
  rfl
theorem strOk_tx {x : Str} (h : Tx x) : PyData.strOk x = true := by
  unfold PyData.strOk
  rw [Array.all_eq_true']
  intro c hc
  exact decide_eq_true (h c (by simpa using hc))
theorem canLay_tx {x : Str} (h : Tx x) : (PyData.str x).canLay0 = true := by
  rw [PyData.canLay0]
  exact strOk_tx h
theorem canLayAll_tx : ∀ {xs : List Str}, (∀ x ∈ xs, Tx x) → PyData.canLayAll0 (xs.map .str) = true
  | [], _ => by rw [List.map_nil, PyData.canLayAll0]
  | x :: xs, h => by
    rw [List.map_cons, PyData.canLayAll0, canLay_tx (h x (List.mem_cons_self ..)), canLayAll_tx fun y hy => h y (List.mem_cons_of_mem _ hy)]
    rfl
theorem depthAll_tx : ∀ {xs : List Str}, PyData.depthAll (xs.map .str) = 0
  | [] => by rw [List.map_nil, PyData.depthAll]
  | x :: xs => by
    rw [List.map_cons, PyData.depthAll, depthAll_tx, PyData.depth]
    rfl
theorem shaped_tx {x : Str} (h : Tx x) : SeqAt.shaped (.str x) = true := by
  unfold SeqAt.shaped
  rw [canLay_tx h, PyData.depth]
  rfl
theorem shaped_lS {xs : List Str} (h : ∀ x ∈ xs, Tx x) : SeqAt.shaped (.list (xs.map .str)) = true := by
  unfold SeqAt.shaped
  rw [PyData.canLay0, canLayAll_tx h, PyData.depth, depthAll_tx]
  rfl
theorem eqv_lS (xs ys : List Str) : PyData.eqv (.list (xs.map .str)) (.list (ys.map .str)) = decide (xs = ys) := by
  rw [PyData.eqv]
  exact PySem.W.eqvAll_map xs ys
theorem eqP_yes {p q : PyData} (h1 : SeqAt.shaped p = true) (h2 : SeqAt.shaped q = true) : eqP (some p) (some q) = some (PyData.eqv p q) := if_pos ⟨h1, h2⟩
theorem dEq_lS {xs ys : List Str} (hx : ∀ x ∈ xs, Tx x) (hy : ∀ x ∈ ys, Tx x) : dEqP (lS xs) (lS ys) = some ⟨false, .bl (decide (xs = ys))⟩ := by
  unfold dEqP
  rw [py_lS, py_lS]
  rw [eqP_yes (shaped_lS hx) (shaped_lS hy), eqv_lS]
  rfl
theorem dNe_lS {xs ys : List Str} (hx : ∀ x ∈ xs, Tx x) (hy : ∀ x ∈ ys, Tx x) : dNeP (lS xs) (lS ys) = some ⟨false, .bl (!decide (xs = ys))⟩ := by
  unfold dNeP
  rw [py_lS, py_lS]
  rw [eqP_yes (shaped_lS hx) (shaped_lS hy), eqv_lS]
  rfl
theorem dNe_str {x y : Str} (hx : Tx x) (hy : Tx y) : dNeP (.str x) (.str y) = some ⟨false, .bl (!decide (x = y))⟩ := by
  unfold dNeP
  rw [py_str, py_str]
  rw [eqP_yes (shaped_tx hx) (shaped_tx hy), PyData.eqv, PySem.W.beq_decide]
  rfl
theorem py_int {a : Int} : py (.int a) = some (.int a) := by rw [py]
theorem shaped_int (a : Int) : SeqAt.shaped (.int a) = true := by
  unfold SeqAt.shaped
  rw [PyData.canLay0, PyData.depth]
  rfl
theorem dEq_int {a b : Int} : dEqP (.int a) (.int b) = some ⟨false, .bl (decide (a = b))⟩ := by
  unfold dEqP
  rw [py_int, py_int]
  rw [eqP_yes (shaped_int a) (shaped_int b), PyData.eqv, PySem.W.beq_decide]
  rfl
theorem dNe_int {a b : Int} : dNeP (.int a) (.int b) = some ⟨false, .bl (!decide (a = b))⟩ := by
  unfold dNeP
  rw [py_int, py_int]
  rw [eqP_yes (shaped_int a) (shaped_int b), PyData.eqv, PySem.W.beq_decide]
  rfl
theorem dInB_lS {x : Str} {xs : List Str} (hx : Tx x) (h : ∀ y ∈ xs, Tx y) : dInB (.str x) (lS xs) = some (decide (x ∈ xs)) := by
  show (match py (.str x), pyL (xs.map .str) with
    | some p, some ps => if SeqAt.shaped p = true ∧ SeqAt.shaped (.list ps) = true then some (ps.any fun z => PyData.eqv z p) else none
    | _, _ => none) = _
  rw [py_str, pyL_strs]
  dsimp only
  rw [if_pos ⟨shaped_tx hx, shaped_lS h⟩]
  exact congrArg some (PySem.W.any_datum xs x)
theorem dNotIn_lS {x : Str} {xs : List Str} (hx : Tx x) (h : ∀ y ∈ xs, Tx y) : dNotIn (.str x) (lS xs) = some ⟨false, .bl (!decide (x ∈ xs))⟩ := by
  unfold dNotIn
  rw [dInB_lS hx h]
  rfl
/-! repr -/
theorem repr_len {x : Str} (h : Tx x) : (PySem.reprText x).length ≤ 10 * x.length + 2 := StrLaws.reprText_len x fun c hc => Nat.lt_trans (h c hc) (by decide)
theorem showable_tx : ∀ {xs : List Str}, PyData.showableAll (xs.map .str) = true
  | [] => by rw [List.map_nil, PyData.showableAll]
  | x :: xs => by rw [List.map_cons, PyData.showableAll, showable_tx, PyData.showable]; rfl
theorem hasDict_tx : ∀ {xs : List Str}, PyData.hasDictAll (xs.map .str) = false
  | [] => by rw [List.map_nil, PyData.hasDictAll]
  | x :: xs => by rw [List.map_cons, PyData.hasDictAll, hasDict_tx, PyData.hasDict]; rfl
theorem sum_repr {n : Nat} : ∀ {xs : List Str}, (∀ x ∈ xs, Tx x ∧ x.length ≤ n) → ((xs.map PySem.reprText).map (·.length)).sum ≤ xs.length * (10 * n + 2)
  | [], _ => by simp
  | x :: xs, h => by
    have h1 := sum_repr (xs := xs) fun y hy => h y (List.mem_cons_of_mem _ hy)
    obtain ⟨t, l⟩ := h x (List.mem_cons_self ..)
    have h2 := repr_len t
    rw [List.map_cons, List.map_cons, List.sum_cons, List.length_cons, Nat.add_mul]
    omega
theorem shown_len {n : Nat} {xs : List Str} (h : ∀ x ∈ xs, Tx x ∧ x.length ≤ n) : (PyData.list (xs.map .str)).shown.length ≤ xs.length * (10 * n + 2) + 2 * xs.length + 3 := by
  have e : (PyData.list (xs.map .str)).shown = listText (xs.map PySem.reprText) := by
    simp only [PyData.shown]
    rw [PyData.shownAll_strs]
  rw [e]
  have h1 := listText_len_le (xs.map PySem.reprText)
  have h2 := sum_repr h
  rw [List.length_map] at h1
  omega
theorem dRepr_lS {n : Nat} {xs : List Str} (h : ∀ x ∈ xs, Tx x ∧ x.length ≤ n) (hn : xs.length * (10 * n + 2) + 2 * xs.length + 3 ≤ sizeLine) : dRepr (lS xs) = some ⟨false, .str (PyData.list (xs.map .str)).shown⟩ := by
  unfold dRepr
  rw [py_lS]
  have k : reprOk (lS xs) (.list (xs.map .str)) = true := by
    unfold reprOk
    rw [PyData.showable, PyData.hasDict, showable_tx, hasDict_tx, PyData.depth, depthAll_tx, decide_eq_true (Nat.le_trans (shown_len h) hn)]
    rfl
  show (if reprOk (lS xs) (.list (xs.map .str)) = true then cv (.str (PyData.list (xs.map .str)).shown) else none) = _
  rw [if_pos k]
  rfl
theorem dRepr_non : dRepr .non = some ⟨false, .str (PyData.none).shown⟩ := by
  have h : reprOk .non .none = true := by
    unfold reprOk
    rw [PyData.showable, PyData.hasDict, PyData.depth, PyData.shown_none]
    decide
  unfold dRepr
  rw [py]
  show (if reprOk .non .none = true then cv (.str (PyData.none).shown) else none) = _
  rw [if_pos h]
  rfl
/-! len(set(..)) -/
theorem addS_nodup : ∀ {xs seen : List Str}, (∀ x ∈ xs, x ∉ seen) → xs.Nodup → (xs.foldl addS seen).length = seen.length + xs.length
  | [], _, _, _ => rfl
  | x :: xs, seen, h, n => by
    have h1 : addS seen x = x :: seen := if_neg (h x (List.mem_cons_self ..))
    rw [List.foldl_cons, h1, addS_nodup (fun y hy z => ?_) (List.nodup_cons.mp n).2, List.length_cons, List.length_cons]
    · omega
    · rcases List.mem_cons.mp z with e | z
      · exact (List.nodup_cons.mp n).1 (e ▸ hy)
      · exact h y (List.mem_cons_of_mem _ hy) z
theorem txts_lS : ∀ {xs : List Str}, txts (xs.map .str) = some xs
  | [] => rfl
  | x :: xs => by
    show (txts (xs.map .str)).map _ = _
    rw [txts_lS]
    rfl
theorem dLenSet_lS {xs : List Str} (n : xs.Nodup) (h : xs.length < scanBound) : dLenSet (lS xs) = some ⟨false, .int xs.length⟩ := by
  have e : (xs.foldl addS []).length = xs.length := by
    rw [addS_nodup (fun x _ z => by cases z) n, List.length_nil, Nat.zero_add]
  have z : (if xs.length < scanBound then cv (.int ((xs.foldl addS []).length : Nat)) else none) = some ⟨false, .int xs.length⟩ := by
    rw [if_pos h, e]
    rfl
  show (txts (xs.map .str)).bind _ = _
  rw [txts_lS]
  exact z
end Ov


set_option Elab.async false
set_option linter.all false
set_option maxRecDepth 100000
set_option maxHeartbeats 4000000
namespace Ov
open PySem PySem.Spec PyProof.Rows L2

/-! ### more evaluation lemmas -/
section
variable {α β : Type} {m : M α} {f : α → M β} {a : α} {S S1 S2 S3 : Sta} {r : Res β} {r1 : Res Opn} {rb : Res Bool} {x : Exn} {ma mb mc me : M Opn} {ms : M (List Opn)} {o p q : Opn} {os : List Opn} {d e d' e' : D} {ds acc : List D} {c : Cell} {F G : D → D → Option Cell} {F1 : D → Option Cell} {b : Bool} {i : Nat} {j : Int} {R : SR} {s1 s2 body : SM} {t t2 : M Bool} {am : AM} {cs fin : List Cell} {k : Nat} {FF : FM} {vs : List Nat} {mi : M (List D)}
theorem v_bindX (h : m S = .exc x S1) : M.bind m f S = .exc x S1 := by unfold M.bind; rw [h]
theorem v_call (h : os.mapM (curC S) = some cs) (hd : dist os cs = true) (hF : FF cs S.cnt = .ok c fin k) : callM FF os S = .ok (.v c) { putFin S os cs fin with cnt := k } := by
  unfold callM
  rw [h]
  dsimp only
  rw [if_pos hd, hF]
theorem v_callX (h : os.mapM (curC S) = some cs) (hd : dist os cs = true) (hF : FF cs S.cnt = .exc x fin k) : callM FF os S = .exc x { putFin S os cs fin with cnt := k } := by
  unfold callM
  rw [h]
  dsimp only
  rw [if_pos hd, hF]
theorem v_not (h : t S = .ok b S1) : bNot t S = .ok (!b) S1 := v_bind h rfl
theorem v_orT (h : t S = .ok b S1) (hb : b = true) : bOr t t2 S = .ok true S1 := v_bind h (by rw [if_pos hb]; rfl)
theorem v_orF (h : t S = .ok b S1) (hb : b = false) (k : t2 S1 = rb) : bOr t t2 S = rb := v_bind h (by rw [if_neg (by rw [hb]; exact Bool.false_ne_true)]; exact k)
theorem v_tru (h : ma S = .ok o S1) (e1 : curD S1 o = some d) (k : dTru d = some b) : mTru ma S = .ok b S1 := v_bind h (by unfold truM; rw [e1]; simp only [Option.bind_some]; rw [k])
theorem v_andT (h : ma S = .ok o S1) (e1 : curD S1 o = some (.bl b)) (hb : b = true) (k : mb S1 = r1) : mAnd ma mb S = r1 := v_bind h (v_bind (a := b) (S1 := S1) (by unfold truM; rw [e1]; rfl) (by rw [if_pos hb]; exact k))
theorem v_andF (h : ma S = .ok o S1) (e1 : curD S1 o = some (.bl b)) (hb : b = false) : mAnd ma mb S = .ok o S1 := v_bind h (v_bind (a := b) (S1 := S1) (by unfold truM; rw [e1]; rfl) (by rw [if_neg (by rw [hb]; exact Bool.false_ne_true)]; rfl))
theorem v_mifT (h : t S = .ok b S1) (hb : b = true) (k : ma S1 = r1) : mIf t ma mb S = r1 := v_bind h (by rw [if_pos hb]; exact k)
theorem v_mifF (h : t S = .ok b S1) (hb : b = false) (k : mb S1 = r1) : mIf t ma mb S = r1 := v_bind h (by rw [if_neg (by rw [hb]; exact Bool.false_ne_true)]; exact k)
theorem v_chainT (h1 : ma S = .ok o S1) (h2 : mb S1 = .ok p S2) (e1 : curD S2 o = some d) (e2 : curD S2 p = some e) (k : F d e = some ⟨false, .bl b⟩) (hb : b = true) (h3 : mc S2 = .ok q S3) (e3 : curD S3 p = some d') (e4 : curD S3 q = some e') (k2 : G d' e' = some c) :
    mChain ma mb mc F G S = .ok (.v c) S3 := by
  subst hb
  refine v_bind h1 (v_bind h2 ?_)
  rw [e1, e2]
  simp only [Option.bind_some]
  rw [k]
  exact v_bind h3 (by unfold pure2; rw [e3, e4]; simp only [Option.bind_some]; rw [k2])
theorem v_chainF (h1 : ma S = .ok o S1) (h2 : mb S1 = .ok p S2) (e1 : curD S2 o = some d) (e2 : curD S2 p = some e) (k : F d e = some ⟨false, .bl b⟩) (hb : b = false) : mChain ma mb mc F G S = .ok (.v ⟨false, .bl false⟩) S2 := by
  subst hb
  refine v_bind h1 (v_bind h2 ?_)
  rw [e1, e2]
  simp only [Option.bind_some]
  rw [k]
theorem v_slTo (h1 : ma S = .ok o S1) (h2 : mb S1 = .ok p S2) (e2 : curD S2 p = some (.int j)) (e1 : curD S2 o = some d) (k : dSl d none (some j) = some c) : mSl ma mNoPart (mPart mb) S = .ok (.v c) S2 :=
  v_bind h1 (v_bind (a := none) (S1 := S1) rfl (v_bind (a := some j) (S1 := S2) (v_bind h2 (by rw [e2])) (by unfold pure1; rw [e1]; simp only [Option.bind_some]; rw [k])))
theorem v_range1 (h : ms S = .ok os S1) (e1 : os.mapM (curD S1) = some [.int j]) (hj : rngOk j = true) : mRange1 ms S = .ok ((List.range j.toNat).map fun (k : Nat) => .int (0 + k)) S1 := v_bind h (by rw [e1]; dsimp only; rw [if_pos hj])
theorem v_for (h : mi S = .ok ds S1) (k : loopM am body ds S1 = R) : sFor mi am body S = R := by unfold sFor; rw [h]; exact k
theorem v_lc (h : mi S = .ok ds S1) (ho : noOwn S1 vs = true) (k : lcLoop am t me vs ds [] (wipeS S1 vs) = .ok acc S2) : mLC mi am t me vs S = .ok (.v ⟨true, .lst acc⟩) (restS S1 S2 vs) := by
  unfold mLC
  rw [h]
  dsimp only
  rw [if_pos ho, k]
theorem v_src (h : ma S = .ok o S1) (e1 : curD S1 o = some d) (k : itemsOf d = some ds) : mSrc ma S = .ok ds (frz S1 o) := v_bind h (by rw [e1]; simp only [Option.bind_some]; rw [k])
theorem v_enum (h : ms S = .ok [o] S1) (e1 : curD S1 o = some (.lst ds)) : mEnum ms S = .ok (numbered 0 ds) (frz S1 o) := v_bind h (by dsimp only; rw [e1])
theorem v_app {ds0 : List D} (g0 : S.sl[i]? = some (some ⟨true, .lst ds0⟩)) (h : ms S = .ok [o] S1) (e1 : curD S1 o = some e) (g1 : (frz S1 o).sl[i]? = some (some ⟨true, .lst ds⟩)) (hl : ds.length < sizeLine) :
    mMut "list" fAppend i ms S = .ok (.v ⟨false, .non⟩) (mutS (frz S1 o) i (.lst (ds ++ [e]))) := by
  unfold mMut
  rw [g0]
  dsimp only
  rw [if_pos (by rfl)]
  refine v_bind h ?_
  have z : [o].mapM (curD S1) = some [e] := by simp [e1]
  rw [z]
  dsimp only
  rw [show (frzL S1 [o]).sl[i]? = some (some ⟨true, .lst ds⟩) from g1]
  dsimp only
  rw [show fAppend (.lst ds) [e] = some (.lst (ds ++ [e]), .non) from if_pos hl]
  rfl
theorem v_m1 {FS : Str → D → Option Cell} {y : Str} (h1 : ma S = .ok o S1) (e1 : curD S1 o = some (.str y)) (h2 : mb S1 = .ok p S2) (e2 : curD S2 p = some d) (k : FS y d = some c) : mM1 FS ma mb S = .ok (.v c) S2 := by
  refine v_bind h1 ?_
  rw [e1]
  exact v_bind h2 (by unfold pure1; rw [e2]; simp only [Option.bind_some]; rw [k])
theorem v_lst (h : ms S = .ok os S1) (e1 : os.mapM (curD S1) = some ds) (hl : ds.length ≤ sizeLine) : mList ms S = .ok (.v ⟨true, .lst ds⟩) (frzL S1 os) := v_bind h (by unfold mkL; rw [e1]; dsimp only; rw [if_pos hl])
theorem v_tup (h : ms S = .ok os S1) (e1 : os.mapM (curD S1) = some ds) (hl : ds.length ≤ sizeLine) : mTup ms S = .ok (.v ⟨false, .tup ds⟩) (frzL S1 os) := v_bind h (by unfold mkT; rw [e1]; dsimp only; rw [if_pos hl])
theorem v_asgX (h : ma S = .exc x S1) : sAsg ma am S = .exc x S1 := by unfold sAsg; rw [h]
theorem v_retX (h : ma S = .exc x S1) : sRet ma S = .exc x S1 := by unfold sRet; rw [h]
theorem v_raise {C : Str} : sRaise C S = .exc ⟨C, []⟩ S := rfl
theorem v_try {catch_ : Str → Option Bool} (h : s1 S = .rt c S1) : sTry s1 catch_ s2 S = .rt c S1 := by unfold sTry; rw [h]
theorem v_tryX {catch_ : Str → Option Bool} (h : s1 S = .exc x S1) (hc : catch_ x.C = some true) (k : s2 S1 = .rt c S2) : sTry s1 catch_ s2 S = .rt c S2 := by
  unfold sTry
  rw [h]
  dsimp only
  rw [hc]
  dsimp only
  rw [k]
/-! own classes -/
theorem v_fld {cl : List Str} {f : Str} {n : Nat} {C : Str} {fs : List (Str × D)} (h : ma S = .ok o S1) (e1 : curD S1 o = some (.ins n C fs)) (hC : C ∈ cl) (k : fs.lookup f = some d) : M.bind ma (pure1 (dFld cl f)) S = .ok (.v ⟨false, d⟩) S1 :=
  v_bind h (by
    unfold pure1
    rw [e1]
    simp only [Option.bind_some]
    rw [show dFld cl f (.ins n C fs) = some ⟨false, d⟩ from (if_pos hC).trans (by rw [k]; rfl)])
theorem v_setF {cl : List Str} {f : Str} {n : Nat} {C : Str} {fs : List (Str × D)} (h : ma S = .ok o S1) (e1 : curD S1 o = some d) (g1 : (frz S1 o).sl[i]? = some (some ⟨true, .ins n C fs⟩)) (hC : C ∈ cl ∧ fs.length < 1000) :
    mSetF cl f i ma S = .ok (.v ⟨false, .non⟩) (mutS (frz S1 o) i (.ins n C (putD f d fs))) := by
  refine v_bind h ?_
  rw [e1]
  dsimp only
  rw [show (frzL S1 [o]).sl[i]? = some (some ⟨true, .ins n C fs⟩) from g1]
  dsimp only
  rw [if_pos hC]
  rfl
theorem v_spread (h : ma S = .ok o S1) (e1 : curD S1 o = some (.lst ds)) (k : callM FF (ds.map fun d => .v ⟨false, d⟩) S1 = r1) : (M.bind ma fun o => M.bind (spread o) (callM FF)) S = r1 :=
  v_bind h (v_bind (a := ds.map fun d => .v ⟨false, d⟩) (S1 := S1) (by unfold spread; rw [e1]) k)
theorem v_new {C : Str} {f : Cell} (h : FF (⟨true, .ins k C []⟩ :: cs) (k + 1) = .ok ⟨false, .non⟩ (f :: fin) i) : newF C FF cs k = .ok f fin i := by
  unfold newF
  rw [h]
theorem v_newX {C : Str} {f : Cell} (h : FF (⟨true, .ins k C []⟩ :: cs) (k + 1) = .exc x (f :: fin) i) : newF C FF cs k = .exc x fin i := by
  unfold newF
  rw [h]
theorem v_star {c0 f0 : Cell} {rest fin : List Cell} (hr : (rest.all fun c => !c.own) = true) (hl : rest.length ≤ sizeLine) (h : FF [c0, ⟨false, .tup (rest.map (·.d))⟩] k = .ok c (f0 :: fin) i) : starF FF (c0 :: rest) k = .ok c (f0 :: rest) i := by
  show (if _ then _ else _) = _
  rw [if_pos ⟨hr, hl⟩, h]
theorem v_prop {cl : List Str} {n : Nat} {C : Str} {fs : List (Str × D)} (h : ma S = .ok o S1) (e1 : curD S1 o = some (.ins n C fs)) (hC : C ∈ cl) (k : callM FF [o] S1 = .ok p S2) : mProp cl FF ma S = .ok p S2 := by
  refine v_bind h ?_
  rw [e1]
  dsimp only
  rw [if_pos hC]
  unfold noExc
  rw [k]
theorem v_same {cl : List Str} {n n2 : Nat} {C : Str} {fs fs2 : List (Str × D)} (h1 : ma S = .ok o S1) (h2 : mb S1 = .ok p S2) (e1 : curD S2 o = some (.ins n C fs)) (e2 : curD S2 p = some (.ins n2 C fs2)) (hC : C ∈ cl) : mSame cl ma mb S = .ok (.v ⟨false, .bl (decide (n = n2))⟩) S2 := by
  refine v_bind h1 (v_bind h2 ?_)
  dsimp only
  rw [e1, e2]
  dsimp only
  rw [if_pos ⟨rfl, hC⟩]
theorem v_ownOp {cl : List Str} {n n2 : Nat} {C : Str} {fs fs2 : List (Str × D)} (h1 : ma S = .ok o S1) (h2 : mb S1 = .ok p S2) (e1 : curD S2 o = some (.ins n C fs)) (e2 : curD S2 p = some (.ins n2 C fs2)) (hC : C ∈ cl) (k : callM FF [o, p] S2 = r1) : mOwnOp cl FF ma mb S = r1 := by
  refine v_bind h1 (v_bind h2 ?_)
  dsimp only
  rw [e1, e2]
  dsimp only
  rw [if_pos ⟨rfl, hC⟩]
  exact k
theorem v_lenI {cl : List Str} {n : Nat} {C : Str} {fs : List (Str × D)} (h : ma S = .ok o S1) (e1 : curD S1 o = some (.ins n C fs)) (hC : C ∈ cl) (k : callM FF [o] S1 = .ok (.v ⟨false, .int j⟩) S2) (hj : 0 ≤ j ∧ j < 2 ^ 63) : mLenI cl FF ma S = .ok (.v ⟨false, .int j⟩) S2 := by
  refine v_bind h ?_
  rw [e1]
  dsimp only
  rw [if_pos hC, k]
  dsimp only
  rw [if_pos hj]
/-! ### loops -/
/-- a list made, the state being the same again behind each item -/
def LcStep (am : AM) (t : M Bool) (me : M Opn) (vs : List Nat) (S : Sta) (d : D) : Option D → Prop
  | some d' => ∃ S1 S2 o S3, am ⟨false, d⟩ S = some S1 ∧ t S1 = .ok true S2 ∧ me S2 = .ok o S3 ∧ curD S3 o = some d' ∧ wipeS (frz S3 o) vs = S
  | none => ∃ S1 S2, am ⟨false, d⟩ S = some S1 ∧ t S1 = .ok false S2 ∧ wipeS S2 vs = S
theorem lc_flat {g : D → Option D} : ∀ {ds acc : List D}, (∀ d ∈ ds, LcStep am t me vs S d (g d)) → acc.length + ds.length ≤ sizeLine → lcLoop am t me vs ds acc S = .ok (acc ++ ds.filterMap g) S
  | [], acc, _, _ => by rw [List.filterMap_nil, List.append_nil]; rfl
  | d :: ds, acc, h, hl => by
    have hd := h d (List.mem_cons_self ..)
    have rest := fun (acc : List D) => lc_flat (ds := ds) (acc := acc) (g := g) fun z hz => h z (List.mem_cons_of_mem _ hz)
    rw [List.length_cons] at hl
    unfold lcLoop
    cases e1 : g d with
    | some d' =>
      rw [e1] at hd
      obtain ⟨S1, S2, o, S3, z1, z2, z3, z4, z5⟩ := hd
      rw [z1]
      dsimp only
      rw [z2]
      dsimp only
      rw [z3]
      dsimp only
      rw [z4]
      dsimp only
      rw [if_pos (by omega), z5, rest (acc ++ [d']) (by rw [List.length_append, List.length_cons, List.length_nil]; omega), List.filterMap_cons_some e1, List.append_assoc]
      rfl
    | none =>
      rw [e1] at hd
      obtain ⟨S1, S2, z1, z2, z5⟩ := hd
      rw [z1]
      dsimp only
      rw [z2]
      dsimp only
      rw [z5, rest acc (by omega), List.filterMap_cons_none e1]
/-- every item adds one -/
theorem lc_all {I : List D → Sta → Prop} {N : Nat} (hN : N ≤ sizeLine) : ∀ {ds : List D}, (∀ d ∈ ds, ∀ acc S, acc.length < N → I acc S → ∃ S1 S2 o S3 d', am ⟨false, d⟩ S = some S1 ∧ t S1 = .ok true S2 ∧ me S2 = .ok o S3 ∧ curD S3 o = some d' ∧ I (acc ++ [d']) (wipeS (frz S3 o) vs)) →
    ∀ acc S, I acc S → acc.length + ds.length ≤ N → ∃ acc' S', lcLoop am t me vs ds acc S = .ok acc' S' ∧ I acc' S' ∧ acc'.length = acc.length + ds.length
  | [], _, acc, S, h, _ => ⟨acc, S, rfl, h, rfl⟩
  | d :: ds, st, acc, S, h, hl => by
    rw [List.length_cons] at hl
    obtain ⟨S1, S2, o, S3, d', z1, z2, z3, z4, z5⟩ := st d (List.mem_cons_self ..) acc S (by omega) h
    obtain ⟨acc', S', y1, y2, y3⟩ := lc_all hN (ds := ds) (fun z hz => st z (List.mem_cons_of_mem _ hz)) (acc ++ [d']) _ z5 (by rw [List.length_append, List.length_cons, List.length_nil]; omega)
    refine ⟨acc', S', ?_, y2, by rw [y3, List.length_append, List.length_cons, List.length_cons, List.length_nil]; omega⟩
    unfold lcLoop
    rw [z1]
    dsimp only
    rw [z2]
    dsimp only
    rw [z3]
    dsimp only
    rw [z4]
    dsimp only
    rw [if_pos (by omega)]
    exact y1
/-- a loop to its end -/
theorem loop_all {I : Nat → Sta → Prop} {N : Nat} : ∀ {ds : List D} {n : Nat}, (∀ d ∈ ds, ∀ n S, n < N → I n S → ∃ S1 S2, am ⟨false, d⟩ S = some S1 ∧ body S1 = .nx S2 ∧ I (n + 1) S2) → ∀ S, I n S → n + ds.length ≤ N → ∃ S', loopM am body ds S = .nx S' ∧ I (n + ds.length) S'
  | [], n, _, S, h, _ => ⟨S, rfl, h⟩
  | d :: ds, n, st, S, h, hl => by
    rw [List.length_cons] at hl
    obtain ⟨S1, S2, z1, z2, z3⟩ := st d (List.mem_cons_self ..) n S (by omega) h
    obtain ⟨S', y1, y2⟩ := loop_all (ds := ds) (n := n + 1) (fun z hz => st z (List.mem_cons_of_mem _ hz)) S2 z3 (by omega)
    refine ⟨S', ?_, by rw [List.length_cons, show n + (ds.length + 1) = n + 1 + ds.length by omega]; exact y2⟩
    unfold loopM
    rw [z1]
    dsimp only
    rw [z2]
    exact y1
end
end Ov


set_option Elab.async false
set_option linter.all false
set_option maxRecDepth 100000
set_option maxHeartbeats 4000000
namespace Ov.Fin
open PySem PySem.Spec PyProof.Rows L2 Ov

/-! ### the law's call: at its start the script alone is tracked, unless it is an object of the module's own -/
abbrev scriptObj (vs : List Value) : Obj := { cls := .type "list", data := .seq vs.toArray }
def only (K : PySem.W.Frag) (a : Addr) (vs : List Value) (ns : List Int) : Hp := fun b => if b = a ∧ K.lookup a = none then some (.frz (scriptObj vs) (.lst (ns.map V.int))) else none
section
variable {P : Program} {w : World} {K : PySem.W.Frag} {a b : Addr} {vs : List Value} {ns : List Int} {h : Heap} {o : Obj}
theorem only_cases (b : Addr) : only K a vs ns b = none ∨ (b = a ∧ K.lookup a = none ∧ only K a vs ns b = some (.frz (scriptObj vs) (.lst (ns.map V.int)))) := by
  unfold only
  by_cases z : b = a ∧ K.lookup a = none
  · rw [if_pos z]
    exact .inr ⟨z.1, z.2, rfl⟩
  · rw [if_neg z]
    exact .inl rfl
/-- every tracked thing stands as it should -/
theorem only_ok (at_ : h.get? a = some (scriptObj vs)) (vals : Vals (ns.map V.int) vs) (few : ns.length ≤ sizeLine) : HOk P w (only K a vs ns) h := fun b u e => by
  rcases only_cases (K := K) (a := a) (vs := vs) (ns := ns) b with z | ⟨rfl, _, z⟩
  · rw [z] at e
    cases e
  · rw [z] at e
    cases e
    exact ⟨at_, by rw [List.length_map]; exact few, vs, 0, vals, at_⟩
/-- what is no list is not the script -/
theorem only_dict (at_ : h.get? a = some (scriptObj vs)) {es : Array DictEntry} {ep : Nat} (e : h.get? b = some o) (d : o.data = .dict es ep) : only K a vs ns b = none := by
  rcases only_cases (K := K) (a := a) (vs := vs) (ns := ns) b with z | ⟨rfl, _, _⟩
  · exact z
  · rw [at_] at e
    cases e
    cases d
theorem only_known (e : K.lookup b = some o) : only K a vs ns b = none := by
  rcases only_cases (K := K) (a := a) (vs := vs) (ns := ns) b with z | ⟨rfl, n, _⟩
  · exact z
  · rw [e] at n
    cases n
/-- the ground below the script -/
abbrev below (K : PySem.W.Frag) (h : Heap) (a : Addr) (vs : List Value) (ns : List Int) : Heap := hidT h (only K a vs ns)
theorem below_ns (at_ : h.get? a = some (scriptObj vs)) {m : Str → Option Value} (n : h.Ns b m) : (below K h a vs ns).Ns b m := by
  obtain ⟨o, es, ep, e, d, more⟩ := n
  exact ⟨o, es, ep, hidT_get e (only_dict at_ e d), d, more⟩
theorem below_in (X : K.In h) : K.In (below K h a vs ns) := fun b o e => hidT_get (X b o e) (only_known e)
end
section
variable {P : Program} {w : World} {K : PySem.W.Frag} {mg mb : Str → Option Value} {k : Nat} {fa a : Addr} {fd : FuncData} {x : Str} {s : Shared} {vs : List Value} {ns : List Int} {F : FM}
theorem start (X : K.In s.heap) (G : s.heap.Ns mainGlobals mg) (B : s.heap.Ns builtinsNs mb) (boot : ∀ y : Str, y ≠ "__name__" → mb y = bootBuiltins y) (lim : s.heap.NoLimit) (still : s.gens = #[]) (at_ : s.heap.get? a = some (scriptObj vs)) (nums : IntsAre vs ns) (few : ns.length ≤ sizeLine) :
    Env0 P w K mg (below K s.heap a vs ns) callerA [] s (only K a vs ns) where
  frames := rfl
  mod := ⟨below_in X, below_ns at_ G, ⟨mb, below_ns at_ B, boot⟩, lim.elim fun mc z => ⟨mc, below_ns at_ z.1, z.2⟩⟩
  bs := fun b o e => of_hidT e
  bsz := Nat.le_of_eq (hidT_size _ _)
  funs := trivial
  frf := fun b z => nomatch z
  hok := only_ok at_ (vals_ints nums) few
  bare := .of_eq still
/-- the promise at the start: the script in the only cell -/
theorem promise {g : Gh} (hg : g = ⟨K, mg⟩) (X : K.In s.heap) (at_ : s.heap.get? a = some (scriptObj vs)) (nums : IntsAre vs ns) (few : ns.length ≤ sizeLine) (true_ : ∃ fin cnt, F [⟨false, .scr ns⟩] 0 = .ok ⟨false, .bl true⟩ fin cnt) :
    spF g 1 F [V.ref a] (only K a vs ns) (fun v _ => v = .bl true) fun _ _ _ => False := by
  subst hg
  have script : Rep ⟨K, mg⟩ [] (only K a vs ns) (fun _ => False) (.scr ns) (.ref a) := by
    cases z : K.lookup a with
    | none => exact .scr (.inl ⟨scriptObj vs, by unfold only; rw [if_pos ⟨rfl, z⟩], id⟩)
    | some o =>
      have e := X a o z
      rw [at_] at e
      cases e
      refine .scr (.inr ⟨_, vs.toArray, 0, z, rfl, rfl, rfl, ?_, vals_ints nums⟩)
      rw [List.size_toArray, nums.length]
      exact few
  have one : ∀ {i : Nat} {c : Cell}, (entry [⟨false, .scr ns⟩] 0 0).sl[i]? = some (some c) → i = 0 ∧ c = ⟨false, .scr ns⟩ := fun {i c} e => by
    have z := entry_get.mp e
    match i, z with
    | 0, z => cases z; exact ⟨rfl, rfl⟩
  have noOwn : ∀ {b : Addr}, ¬ OwnA (entry [⟨false, .scr ns⟩] 0 0) ([V.ref a].map some) b := fun ⟨i, d, e, _⟩ => by cases (one e).2
  refine ⟨rfl, [], [⟨false, .scr ns⟩], 0, fun _ => False, rfl, ⟨rfl, fun i c e => ?_, fun i j d1 d2 b e => ?_, fun b z => (noOwn z).elim, fun b z => z.elim, rfl, List.nodup_nil, fun b z => nomatch z⟩, ?_⟩
  · obtain ⟨rfl, rfl⟩ := one e
    exact ⟨_, rfl, script.mono .refl (fun b z => .inl (z.elim id fun z => noOwn z)) .rfl⟩
  · cases (one e).2
  · obtain ⟨fin, cnt, e⟩ := true_
    rw [e]
    intro v H2 ids2 B
    have z := B.res.sh
    cases z
    rfl
theorem call_true (X : K.In s.heap) (G : s.heap.Ns mainGlobals mg) (B : s.heap.Ns builtinsNs mb) (boot : ∀ y : Str, y ≠ "__name__" → mb y = bootBuiltins y) (lim : s.heap.NoLimit) (still : s.gens = #[]) (at_ : s.heap.get? a = some (scriptObj vs)) (nums : IntsAre vs ns) (few : ns.length ≤ sizeLine)
    (room : Room k callerA) (D : ∀ base : Heap, K.In base → base.Ns mainGlobals mg → FnG true P w K mg base k fa fd [x] (spF ⟨K, mg⟩ 1 F)) (bind_ : ∀ (s : Shared) (u : Value), BindsTo s fd ⟨[u], []⟩ [(x, u)]) (true_ : ∃ fin cnt, F [⟨false, .scr ns⟩] 0 = .ok ⟨false, .bl true⟩ fin cnt) :
    codeAny (model P w) callerA (.call (.ref fa) ⟨[.ref a], []⟩) (fun r s2 => r = .ok (.ret (.bool true)) ∧ OldK s.heap s2.heap ∧ s2.os = s.os ∧ AllBare s2.gens) s := by
  have env := start (P := P) (w := w) X G B boot lim still at_ nums few
  have run := (D _ (below_in X) (below_ns at_ G)).run callerA [] s (only K a vs ns) ⟨[.ref a], []⟩ [.ref a] [V.ref a] _ _ room (fun _ => rfl) env (bind_ s (.ref a)) (.cons rfl .nil) (promise rfl X at_ nums few true_)
  refine codeAny_mono run fun r s2 z => ?_
  match r, z with
  | .error u, ⟨_, _, _, _, _, _, _, _, _, _, _, _, no⟩ => exact no.elim
  | .ok (.ret u), ⟨v, H2, os, bare, un, ok2, rv, ev⟩ =>
    cases ev
    cases rv
    refine ⟨rfl, OldK.of_keep fun b o e => ?_, os, bare⟩
    rcases only_cases (K := K) (a := a) (vs := vs) (ns := ns) b with free | ⟨rfl, _, mine⟩
    · exact un.keep b o e free (fun z => nomatch z) (fun z => nomatch z)
    · have old : scriptObj vs = o := by
        rw [at_] at e
        exact Option.some.inj e
      rw [← old]
      exact (ok2 b _ (un.frzs b _ _ mine)).1
/-- the goal behind k_fill -/
theorem walk {l : PySem.W.OpenLaw} {n : Nat} {q : Program} {loose : List Str} {XP : (Str → Option Value) → Heap → Prop} {YP : World → Heap → Prop} {d : DefRec} {KK : Params → PySem.W.Frag} (most : l.most = some n) (fits : n ≤ sizeLine) (plain : d.params.defaults = []) (room : Room k callerA)
    (known : ∀ (w : World) (h : Heap), YP w h → (KK w.params).In h)
    (D : ∀ (w : World) (mg : Str → Option Value) (fa : Addr) (h : Heap), (KK w.params).In h → h.Ns mainGlobals mg → mg d.name = some (.ref fa) → ∃ fd : FuncData, (∀ (s : Shared) (u : Value), BindsTo s fd ⟨[u], []⟩ [(x, u)]) ∧
      ∀ base : Heap, (KK w.params).In base → base.Ns mainGlobals mg → FnG true l.prog w (KK w.params) mg base k fa fd [x] (spF ⟨KK w.params, mg⟩ 1 F))
    (true_ : ∀ ns : List Int, ns.length ≤ n → ∃ fin cnt, F [⟨false, .scr ns⟩] 0 = .ok ⟨false, .bl true⟩ fin cnt) : PySem.W.WalkO q loose XP YP l.row.toRowW d [] (fun f us => PySem.call f us) :=
  Att.attach_call most plain fun w s0 s1 mg mb fa o pm cd doc a vs ns G Y ho hd hcd hmg hobj hints hlen hg => by
    have X := known w _ Y
    obtain ⟨fd, b, D2⟩ := D w mg fa _ X G.T.g hmg
    exact call_true X G.T.g G.T.b G.T.builtins G.T.nolimit hg hobj hints (Nat.le_trans hlen fits) room D2 b (true_ ns hlen)
end
end Ov.Fin


set_option Elab.async false
set_option linter.all false
set_option maxRecDepth 100000
set_option maxHeartbeats 4000000
namespace Ov.K02
open PySem PySem.Spec PyProof.Rows L2 Ov
def top (i : Nat) : Stmt := PySem.Challenge.pw_overstamps_k02_stamps_added.main.body.getD i (.Pass ⟨0, 0, 0, 0⟩)
abbrev tNext : Stmt := top 18
theorem scNext : FnScope ["tape", "many", "digit", "mixed"] ["tape", "many"] (defScope tNext) := ⟨rfl, rfl, rfl, by decide +kernel, rfl, by decide +kernel, by decide +kernel⟩
/-- tape[i] -/
def ix (i : Int) : M Opn := m2 (mSlot 0) (mVal (.int i)) (pure2 dIx)
def add (a b : M Opn) : M Opn := m2 a b (pure2 dAdd)
def mul (a b : M Opn) : M Opn := m2 a b (pure2 dMul)
def md (a b : M Opn) : M Opn := m2 a b (pure2 dMod)
def fd (a b : M Opn) : M Opn := m2 a b (pure2 dFdiv)
def pw (a b : M Opn) : M Opn := m2 a b (pure2 dPow)
def n (i : Int) : M Opn := mVal (.int i)
def mNext : SM :=
  sSeq (sIf (mTest (m2 (ix 0) (n 0) (pure2 dGt))) (sSeq (sAsg (md (ix 0) (mSlot 1)) (setSl 2)) (sSeq (sExpr (mPut fSetIx 0 (n 0) (fd (ix 0) (mSlot 1)))) (sSeq (sRet (mSlot 2)) sNext))) sNext)
  (sSeq (sExpr (mPut fSetIx 0 (n 2) (add (ix 2) (n 1))))
  (sSeq (sAsg (md (pw (add (ix 1) (mul (n 32416187567) (ix 2))) (n 3)) (add (pw (n 10) (n 40)) (n 121))) (setSl 3))
  (sSeq (sAsg (md (pw (add (mSlot 3) (mul (n 27644437) (ix 2))) (n 3)) (add (pw (n 10) (n 39)) (n 3))) (setSl 3))
  (sSeq (sRet (md (fd (mSlot 3) (n 16381)) (mSlot 1))) sNext))))
section
variable {P : Program} {w : World} {K : PySem.W.Frag} {mg : Str → Option Value} {base : Heap} {k : Nat}
theorem next_body {g : Gh} {X : Cx} {W : WX} (C : Wf false P w K mg base k ["tape", "many", "digit", "mixed"] (defScope (top 18)) X g W) : DSs X g W (defBody (top 18)) mNext :=
  have at_ : ∀ {i : Int} {j : Nat} {p q r : Pos}, DE X g W (.Subscript (.Name "tape" p) (.Constant (.int i) j q) r) (ix i) := e_ix C (e_var C 0) de_int
  dss_cons (s_if C (t_cmp C c_gt at_ de_int) (dss_cons (s_set C 2 (e_mod C at_ (e_var C 1))) (dss_cons (s_put C 0 de_int (e_fdiv C at_ (e_var C 1))) (dss_cons (ds_ret (e_var C 2)) dss_nil))) dss_nil)
  (dss_cons (s_put C 0 de_int (e_add C at_ de_int))
  (dss_cons (s_set C 3 (e_mod C (e_pow C (e_add C at_ (e_mul C de_int at_)) de_int) (e_add C (e_pow C de_int de_int) de_int)))
  (dss_cons (s_set C 3 (e_mod C (e_pow C (e_add C (e_var C 3) (e_mul C de_int at_)) de_int) (e_add C (e_pow C de_int de_int) de_int)))
  (dss_cons (ds_ret (e_mod C (e_fdiv C (e_var C 3) de_int) (e_var C 1))) dss_nil))))
theorem next_ok {f : Addr} {fd : FuncData} (F : Fun K "_law_next" "_law_next" (top 18) f fd) : FnG false P w K mg base (k + 1) f fd ["tape", "many"] (spF ⟨K, mg⟩ 2 (bodyF 2 2 mNext)) :=
  fnG_of F scNext rfl rfl rfl fun X W C _ _ _ => next_body C
end
end Ov.K02


set_option Elab.async false
set_option linter.all false
set_option maxRecDepth 100000
set_option maxHeartbeats 4000000
namespace Ov.K02
open PySem PySem.Spec PyProof.Rows L2 Ov
/-! ### what _law_next answers -/
theorem next_digit {a b c m : Int} {cnt : Nat} (ha : 0 < a) (hm : 0 < m) (hm2 : m.natAbs.log2 < 9000) : bodyF 2 2 mNext [⟨true, .lst [.int a, .int b, .int c]⟩, ⟨false, .int m⟩] cnt = .ok ⟨false, .int (a % m)⟩ [⟨true, .lst [.int (a / m), .int b, .int c]⟩, ⟨false, .int m⟩] cnt :=
  v_body rfl
    (v_seqR (v_ifT (v_test (v_op (v_op (v_slot rfl) v_val rfl rfl rfl) v_val rfl rfl dGt_i) rfl) (decide_eq_true ha)
      (v_seq (v_asg (v_op (v_op (v_slot rfl) v_val rfl rfl rfl) (v_slot rfl) rfl rfl (dMod_i hm)) rfl rfl)
      (v_seq (v_expr (v_put (v_op (v_op (v_slot rfl) v_val rfl rfl rfl) (v_slot rfl) rfl rfl (dFdiv_i hm hm2)) rfl v_val rfl rfl rfl rfl))
      (v_seqR (v_ret (v_slot rfl) rfl)))))) rfl rfl
end Ov.K02


set_option Elab.async false
set_option linter.all false
set_option maxRecDepth 100000
set_option maxHeartbeats 4000000
namespace Ov.K02
open PySem PySem.Spec PyProof.Rows L2 Ov
def st (s : String) : M Opn := mVal (.str s)
def one1 (m : M Opn) : M (List Opn) := mCons m mNil
def two2 (a b : M Opn) : M (List Opn) := mCons a (mCons b mNil)
/-! ### the tape -/
abbrev nTape : List Str := ["script", "k", "cell"]
theorem scTape : FnScope nTape ["script", "k"] (defScope (top 17)) := ⟨rfl, rfl, rfl, by decide +kernel, rfl, by decide +kernel, by decide +kernel⟩
def mTape : SM :=
  sSeq (sAsg (mIf (mTest (m2 (mSlot 1) (mCallB (one1 (mSlot 0)) (one dLen)) (pure2 dLt))) (mCallB (one1 (m2 (mSlot 0) (mSlot 1) (pure2 dIx))) (one dAbs)) (n 0)) (setSl 2))
  (sSeq (sRet (mList (mCons (mCallB (two2 (n 0) (m2 (mSlot 2) (pw (n 10) (n 18)) (pure2 dSub))) (two dMax)) (mCons (add (mul (md (mSlot 2) (add (pw (n 10) (n 37)) (n 43))) (n 83)) (mSlot 1)) (mCons (n 0) mNil))))) sNext)
/-! ### the inks -/
abbrev nInks : List Str := ["tape", "most", "width", "pool", "found", "turn", "ink", "spot"]
theorem scInks : FnScope nInks ["tape", "most"] (defScope (top 19)) := ⟨rfl, rfl, rfl, by decide +kernel, rfl, by decide +kernel, by decide +kernel⟩
def cNext (a b : M Opn) : M Opn := M.bind (two2 a b) (callM (bodyF 2 2 mNext))
def mInks : SM :=
  sSeq (sAsg (add (n 1) (cNext (mSlot 0) (mSlot 1))) (setSl 2))
  (sSeq (sAsg (m2 (mList (mCons (st "ab") (mCons (st "abc") (mCons (st "aab") (mCons (st "abcdefghijklmnopqrstuvwxyz") mNil))))) (cNext (mSlot 0) (n 4)) (pure2 dIx)) (setSl 3))
  (sSeq (sAsg (mList mNil) (setSl 4))
  (sSeq (sFor (mRange1 (one1 (add (n 1) (cNext (mSlot 0) (mCallB (two2 (n 6) (fd (n 36) (mSlot 2))) (two dMin)))))) (setSl 5)
    (sSeq (sAsg (mM1 dJoin (st "") (mLC (mRange1 (one1 (mSlot 2))) (setSl 7) (M.ret true) (m2 (mSlot 3) (cNext (mSlot 0) (mCallB (one1 (mSlot 3)) (one dLen))) (pure2 dIx)) [7])) (setSl 6))
    (sSeq (sIf (mTest (m2 (mSlot 6) (mSlot 4) (pure2 dNotIn))) (sSeq (sExpr (mMut "list" fAppend 4 (one1 (mSlot 6)))) sNext) sNext) sNext)))
  (sSeq (sRet (mSlot 4)) sNext))))
section
variable {P : Program} {w : World} {K : PySem.W.Frag} {mg : Str → Option Value} {base : Heap} {k : Nat} {g : Gh} {X : Cx} {W : WX}
theorem tape_body (C : Wf false P w K mg base k nTape (defScope (top 17)) X g W) (zl : mg "len" = none) (za : mg "abs" = none) (zm : mg "max" = none) : DSs X g W (defBody (top 17)) mTape :=
  dss_cons (s_set C 2 (de_if (t_cmp C c_lt (e_var C 1) (e_blt C (b_len C) zl (a_cons C (e_var C 0) (a_nil C)))) (e_blt C (b_abs C) za (a_cons C (e_ix C (e_var C 0) (e_var C 1)) (a_nil C))) de_int))
  (dss_cons (ds_ret (e_list C (a_cons C (e_blt C (b_max C) zm (a_cons C de_int (a_cons C (e_sub C (e_var C 2) (e_pow C de_int de_int)) (a_nil C)))) (a_cons C (e_add C (e_mul C (e_mod C (e_var C 2) (e_add C (e_pow C de_int de_int) de_int)) de_int) (e_var C 1)) (a_cons C de_int (a_nil C)))))) dss_nil)
theorem inks_body {fN : Addr} (C : Wf false P w K mg base 1 nInks (defScope (top 19)) X g W) (dN : FnD false P w K mg base 1 fN g (bodyF 2 2 mNext)) (hN : mg "_law_next" = some (.ref fN)) (kN : PySem.W.keepIn K (.ref fN) = true)
    (zl : mg "len" = none) (zm : mg "min" = none) (zr : mg "range" = none) : DSs X g W (defBody (top 19)) mInks :=
  dss_cons (s_set C 2 (e_add C de_int (e_call C dN hN kN (a_cons C (e_var C 0) (a_cons C (e_var C 1) (a_nil C))))))
  (dss_cons (s_setC C 3 (e_ix C (e_list C (a_cons C de_str (a_cons C de_str (a_cons C de_str (a_cons C de_str (a_nil C)))))) (e_call C dN hN kN (a_cons C (e_var C 0) (a_cons C de_int (a_nil C))))))
  (dss_cons (s_set C 4 (e_list C (a_nil C)))
  (dss_cons (s_for C (i_range1 C zr (a_cons C (e_add C de_int (e_call C dN hN kN (a_cons C (e_var C 0) (a_cons C (e_blt C (b_min C) zm (a_cons C de_int (a_cons C (e_fdiv C de_int (e_var C 2)) (a_nil C)))) (a_nil C))))) (a_nil C))) (g_name C 5)
    (dss_cons (s_set C 6 (e_join C de_str (e_lc C [("spot", 7)] (i_range1 C zr (a_cons C (e_var C 2) (a_nil C))) (fun X' C' => g_name C' 7) (fun X' C' => dts_nil) (fun X' C' => e_ix C' (e_var C' 3) (e_call C' dN hN kN (a_cons C' (e_var C' 0) (a_cons C' (e_blt C' (b_len C') zl (a_cons C' (e_var C' 3) (a_nil C'))) (a_nil C'))))))))
    (dss_cons (s_if C (t_cmp C (c_notIn C) (e_var C 6) (e_var C 4)) (dss_cons (s_append C 4 (a_cons C (e_var C 6) (a_nil C))) dss_nil) dss_nil) dss_nil)))
  (dss_cons (ds_ret (e_var C 4)) dss_nil))))
end
end Ov.K02


set_option Elab.async false
set_option linter.all false
set_option maxRecDepth 100000
set_option maxHeartbeats 4000000
namespace Ov.K02
open PySem PySem.Spec PyProof.Rows L2 Ov
def ltr : Str := "abcdefghijklmnopqrstuvwxyz"
def isT (m : M Opn) (T : String) : M Opn := mCallB (two2 m (mVal (.op (.ty T)))) (two (dIsiTy T (tyTest T)))
def ln (m : M Opn) : M Opn := mCallB (one1 m) (one dLen)
/-! ### is_row -/
abbrev nRow : List Str := ["thing", "signs", "most", "sign"]
theorem scRow : FnScope nRow ["thing", "signs", "most"] (defScope (top 11)) := ⟨rfl, rfl, rfl, by decide +kernel, rfl, by decide +kernel, by decide +kernel⟩
def mRow : SM := sSeq (sRet (mAnd (isT (mSlot 0) "str") (mAnd (mChain (n 1) (ln (mSlot 0)) (mSlot 2) dLe dLe) (mCallB (one1 (mLC (mSrc (mSlot 0)) (setSl 3) (M.ret true) (m2 (mSlot 3) (mSlot 1) (pure2 dIn)) [3])) (one dAll))))) sNext
/-! ### are_words -/
abbrev nWords : List Str := ["thing", "width", "word"]
theorem scWords : FnScope nWords ["thing"] (defScope (top 13)) := ⟨rfl, rfl, rfl, by decide +kernel, rfl, by decide +kernel, by decide +kernel⟩
def cRow (a b c : M Opn) : M Opn := M.bind (mCons a (mCons b (mCons c mNil))) (callM (bodyF 3 1 mRow))
def first0 (m : M Opn) : M Opn := m2 m (n 0) (pure2 dIx)
def mWords : SM :=
  sSeq (sIf (bOr (bNot (mTru (isT (mSlot 0) "list"))) (bNot (mTest (mChain (n 1) (ln (mSlot 0)) (n 6) dLe dLe)))) (sSeq (sRet (mVal (.bl false))) sNext) sNext)
  (sSeq (sIf (bNot (mTru (mCallB (one1 (mLC (mSrc (mSlot 0)) (setSl 2) (M.ret true) (cRow (mSlot 2) (mVal (.str ltr)) (n 8)) [2])) (one dAll)))) (sSeq (sRet (mVal (.bl false))) sNext) sNext)
  (sSeq (sAsg (ln (first0 (mSlot 0))) (setSl 1))
  (sSeq (sIf (bOr (bNot (mTru (mCallB (one1 (mLC (mSrc (mSlot 0)) (setSl 2) (M.ret true) (m2 (ln (mSlot 2)) (mSlot 1) (pure2 dEqP)) [2])) (one dAll)))) (mTest (m2 (mul (mSlot 1) (ln (mSlot 0))) (n 36) (pure2 dGt)))) (sSeq (sRet (mVal (.bl false))) sNext) sNext)
  (sSeq (sRet (m2 (M.bind (mSlot 0) (pure1 dLenSet)) (ln (mSlot 0)) (pure2 dEqP))) sNext))))
section
variable {P : Program} {w : World} {K : PySem.W.Frag} {mg : Str → Option Value} {base : Heap} {k : Nat} {g : Gh} {X : Cx} {W : WX}
theorem row_body (C : Wf false P w K mg base k nRow (defScope (top 11)) X g W) (zl : mg "len" = none) (za : mg "all" = none) (zi : mg "isinstance" = none) (zs : mg "str" = none) : DSs X g W (defBody (top 11)) mRow :=
  dss_cons (ds_ret (e_and C (e_blt C (b_isi C isi_ty) zi (a_cons C (e_var C 0) (a_cons C (e_type C zs boot_str) (a_nil C))))
    (e_and C (e_chain C c_le c_le de_int (e_blt C (b_len C) zl (a_cons C (e_var C 0) (a_nil C))) (e_var C 2))
    (de_one (e_blt C (b_all C) za (a_cons C (e_lc C [("sign", 3)] (i_src C (e_var C 0)) (fun X' C' => g_name C' 3) (fun X' C' => dts_nil) (fun X' C' => e_cmp C' (c_in C') (e_var C' 3) (e_var C' 1))) (a_nil C))))))) dss_nil
theorem words_body {fR cS : Addr} {mc u6 : Value} (C : Wf false P w K mg base 2 nWords (defScope (top 13)) X g W) (dR : FnD false P w K mg base 1 fR g (bodyF 3 1 mRow)) (hR : mg "is_row" = some (.ref fR)) (kR : PySem.W.keepIn K (.ref fR) = true)
    (hL : ∃ u, mg "LETTERS" = some u ∧ RelV (.str ltr) u) (hW : ∃ u, mg "MOST_WIDTH" = some u ∧ RelV (.int 8) u) (hM : ∃ u, mg "MOST_LETTERS" = some u ∧ RelV (.int 36) u) (hS : mg "Stamps" = some (.ref cS)) (rd : ClX.CRead K cS mc) (at_ : PySem.W.findCls K (.ref cS) mc "MOST" = some (.val u6)) (r6 : RelV (.int 6) u6)
    (zl : mg "len" = none) (za : mg "all" = none) (zi : mg "isinstance" = none) (zt : mg "list" = none) (zs : mg "set" = none) : DSs X g W (defBody (top 13)) mWords :=
  dss_cons (s_if C (dt_bool (dw_or (dt_not (t_tru C (e_blt C (b_isi C isi_ty) zi (a_cons C (e_var C 0) (a_cons C (e_type C zt boot_list) (a_nil C)))))) (dw_or1 (dt_not (t_chain2 C c_le c_le de_int (e_blt C (b_len C) zl (a_cons C (e_var C 0) (a_nil C))) (de_const C hS rfl (by decide) rd at_ rfl r6 rfl)))))) (dss_cons (ds_ret de_bl) dss_nil) dss_nil)
  (dss_cons (s_if C (dt_not (t_tru C (e_blt C (b_all C) za (a_cons C (e_lc C [("word", 2)] (i_src C (e_var C 0)) (fun X' C' => g_name C' 2) (fun X' C' => dts_nil) (fun X' C' => e_call C' dR hR kR (a_cons C' (e_var C' 2) (a_cons C' (e_glob C' hL) (a_cons C' (e_glob C' hW) (a_nil C')))))) (a_nil C)))) ) (dss_cons (ds_ret de_bl) dss_nil) dss_nil)
  (dss_cons (s_setC C 1 (e_blt C (b_len C) zl (a_cons C (e_ix C (e_var C 0) de_int) (a_nil C))))
  (dss_cons (s_if C (dt_bool (dw_or (dt_not (t_tru C (e_blt C (b_all C) za (a_cons C (e_lc C [("word", 2)] (i_src C (e_var C 0)) (fun X' C' => g_name C' 2) (fun X' C' => dts_nil) (fun X' C' => e_cmp C' (c_eq C') (e_blt C' (b_len C') zl (a_cons C' (e_var C' 2) (a_nil C'))) (e_var C' 1))) (a_nil C))))) (dw_or1 (t_cmp C c_gt (e_mul C (e_var C 1) (e_blt C (b_len C) zl (a_cons C (e_var C 0) (a_nil C)))) (e_glob C hM))))) (dss_cons (ds_ret de_bl) dss_nil) dss_nil)
  (dss_cons (ds_ret (e_cmp C (c_eq C) (e_sized C zl zs (e_var C 0)) (e_blt C (b_len C) zl (a_cons C (e_var C 0) (a_nil C))))) dss_nil))))
end
end Ov.K02


set_option Elab.async false
set_option linter.all false
set_option maxRecDepth 100000
set_option maxHeartbeats 4000000
namespace Ov.K02
open PySem PySem.Spec PyProof.Rows L2 Ov
abbrev meth (j : Nat) : Stmt := inClass (top 15) j
abbrev SC : List Str := ["Stamps"]
def hw (m : M Opn) : M Opn := M.bind m (pure1 (dFld SC "held_words"))
def lst1 (m : M Opn) : M Opn := mCallB (one1 m) (one dList)
def cWords (m : M Opn) : M Opn := M.bind (one1 m) (callM (bodyF 1 2 mWords))
/-! ### the class Stamps -/
abbrev nInit : List Str := ["self", "words"]
theorem scInit : FnScope nInit ["self", "words"] (defScope (meth 1)) := ⟨rfl, rfl, rfl, by decide +kernel, rfl, by decide +kernel, by decide +kernel⟩
def mInit : SM := sSeq (sIf (bNot (mTru (cWords (lst1 (mSlot 1))))) (sSeq (sRaise "InvalidStamps") sNext) sNext) (sSeq (sExpr (mSetF SC "held_words" 0 (lst1 (mSlot 1)))) sNext)
def fInit : FM := starF (bodyF 2 0 mInit)
abbrev nOf : List Str := ["cls", "words"]
theorem scOf : FnScope nOf ["cls", "words"] (defScope (meth 2)) := ⟨rfl, rfl, rfl, by decide +kernel, rfl, by decide +kernel, by decide +kernel⟩
def mOf : SM := sSeq (sIf (bNot (mTru (cWords (mSlot 1)))) (sSeq (sRaise "InvalidStamps") sNext) sNext) (sSeq (sRet (M.bind (mSlot 1) fun o => M.bind (spread o) (callM (newF "Stamps" fInit)))) sNext)
def fOf : FM := bodyF 2 0 mOf
theorem scSelf3 : FnScope ["self"] ["self"] (defScope (meth 3)) := ⟨rfl, rfl, rfl, by decide +kernel, rfl, by decide +kernel, by decide +kernel⟩
theorem scSelf4 : FnScope ["self"] ["self"] (defScope (meth 4)) := ⟨rfl, rfl, rfl, by decide +kernel, rfl, by decide +kernel, by decide +kernel⟩
theorem scSelf5 : FnScope ["self"] ["self"] (defScope (meth 5)) := ⟨rfl, rfl, rfl, by decide +kernel, rfl, by decide +kernel, by decide +kernel⟩
def mWds : SM := sSeq (sRet (lst1 (hw (mSlot 0)))) sNext
def mWid : SM := sSeq (sRet (ln (first0 (hw (mSlot 0))))) sNext
def mLen : SM := sSeq (sRet (ln (hw (mSlot 0)))) sNext
abbrev nAdd : List Str := ["self", "other", "more", "word"]
theorem scAdd : FnScope nAdd ["self", "other"] (defScope (meth 6)) := ⟨rfl, rfl, rfl, by decide +kernel, rfl, by decide +kernel, by decide +kernel⟩
def mAdd : SM := sSeq (sAsg (mLC (mSrc (hw (mSlot 1))) (setSl 3) (mTest (m2 (mSlot 3) (hw (mSlot 0)) (pure2 dNotIn))) (mSlot 3) [3]) (setSl 2)) (sSeq (sRet (mCls "Stamps" fOf (one1 (add (hw (mSlot 0)) (mSlot 2))))) sNext)
def fAdd : FM := bodyF 2 2 mAdd
section
variable {P : Program} {w : World} {K : PySem.W.Frag} {mg : Str → Option Value} {base : Heap} {k : Nat} {g : Gh} {X : Cx} {W : WX} {fW fI fO cS pr : Addr} {mc : Value}
theorem init_body (C : Wf false P w K mg base 3 nInit (defScope (meth 1)) X g W) (dW : FnD false P w K mg base 3 fW g (bodyF 1 2 mWords)) (hW : mg "are_words" = some (.ref fW)) (kW : PySem.W.keepIn K (.ref fW) = true) (zt : mg "list" = none) (ex : Own K mg "InvalidStamps") (B : Bears g SC "held_words") : DSs X g W (defBody (meth 1)) mInit :=
  dss_cons (s_if C (dt_not (t_tru C (e_call C dW hW kW (a_cons C (e_bltT C (b_list C) zt (a_cons C (e_var C 1) (a_nil C))) (a_nil C))))) (dss_cons (s_raise C ex) dss_nil) dss_nil)
  (dss_cons (s_fld C 0 B (e_bltT C (b_list C) zt (a_cons C (e_var C 1) (a_nil C)))) dss_nil)
theorem of_body (C : Wf false P w K mg base 5 nOf (defScope (meth 2)) X g W) (dW : FnD false P w K mg base 3 fW g (bodyF 1 2 mWords)) (hW : mg "are_words" = some (.ref fW)) (kW : PySem.W.keepIn K (.ref fW) = true) (ex : Own K mg "InvalidStamps")
    (Mc : Mk K cS fI) (dI : FnD false P w K mg base 4 fI g fInit) (hS : mg "Stamps" = some (.ref cS)) : DSs X g W (defBody (meth 2)) mOf :=
  dss_cons (s_if C (dt_not (t_tru C (e_call C dW hW kW (a_cons C (e_var C 1) (a_nil C))))) (dss_cons (s_raise C ex) dss_nil) dss_nil)
  (dss_cons (ds_ret (e_newS C Mc dI hS (e_var C 1))) dss_nil)
theorem wds_body (C : Wf false P w K mg base k ["self"] (defScope (meth 3)) X g W) (zt : mg "list" = none) (B : Bears g SC "held_words") : DSs X g W (defBody (meth 3)) mWds :=
  dss_cons (ds_ret (e_bltT C (b_list C) zt (a_cons C (e_fld C B (e_var C 0)) (a_nil C)))) dss_nil
theorem wid_body (C : Wf false P w K mg base k ["self"] (defScope (meth 4)) X g W) (zl : mg "len" = none) (B : Bears g SC "held_words") : DSs X g W (defBody (meth 4)) mWid :=
  dss_cons (ds_ret (e_blt C (b_len C) zl (a_cons C (e_ix C (e_fld C B (e_var C 0)) de_int) (a_nil C)))) dss_nil
theorem len_body (C : Wf false P w K mg base k ["self"] (defScope (meth 5)) X g W) (zl : mg "len" = none) (B : Bears g SC "held_words") : DSs X g W (defBody (meth 5)) mLen :=
  dss_cons (ds_ret (e_blt C (b_len C) zl (a_cons C (e_fld C B (e_var C 0)) (a_nil C)))) dss_nil
theorem add_body (C : Wf false P w K mg base 6 nAdd (defScope (meth 6)) X g W) (dO : FnD false P w K mg base 6 fO g fOf) (hS : mg "Stamps" = some (.ref cS)) (rd : ClX.CRead K cS mc) (cm : ClX.CMet K cS mc "of" pr fO) (B : Bears g SC "held_words") : DSs X g W (defBody (meth 6)) mAdd :=
  dss_cons (s_setLc C 2 [("word", 3)] (i_src C (e_fld C B (e_var C 1))) (fun X' C' => g_name C' 3) (fun X' C' => dts_one (t_cmp C' (c_notIn C') (e_var C' 3) (e_fld C' B (e_var C' 0)))) (fun X' C' => e_var C' 3))
  (dss_cons (ds_ret (e_cmeth C hS rd cm dO (a_cons C (e_add C (e_fld C B (e_var C 0)) (e_var C 2)) (a_nil C)))) dss_nil)
end
end Ov.K02


set_option Elab.async false
set_option linter.all false
set_option maxRecDepth 100000
set_option maxHeartbeats 4000000
namespace Ov.K02
open PySem PySem.Spec PyProof.Rows L2 Ov
/-! ### _law_due -/
abbrev nDue : List Str := ["first", "second", "found", "ink"]
theorem scDue : FnScope nDue ["first", "second"] (defScope (top 20)) := ⟨rfl, rfl, rfl, by decide +kernel, rfl, by decide +kernel, by decide +kernel⟩
def mDue : SM :=
  sSeq (sAsg (add (mSlot 0) (mLC (mSrc (mSlot 1)) (setSl 3) (mTest (m2 (mSlot 3) (mSlot 0) (pure2 dNotIn))) (mSlot 3) [3])) (setSl 2))
  (sSeq (sIf (bOr (mTest (m2 (ln (mSlot 2)) (n 6) (pure2 dGt))) (mTest (m2 (mLC (mSrc (mSlot 2)) (setSl 3) (mTest (m2 (ln (mSlot 3)) (ln (first0 (mSlot 2))) (pure2 dNeP))) (mSlot 3) [3]) (mList mNil) (pure2 dNeP)))) (sSeq (sRet (mVal .non)) sNext) sNext)
  (sSeq (sRet (mIf (mTest (m2 (mul (ln (mSlot 2)) (ln (first0 (mSlot 2)))) (n 36) (pure2 dLe))) (mSlot 2) (mVal .non))) sNext))
/-! ### _law_sum -/
theorem scSum : FnScope ["one", "other"] ["one", "other"] (defScope (top 21)) := ⟨rfl, rfl, rfl, by decide +kernel, rfl, by decide +kernel, by decide +kernel⟩
def wds (m : M Opn) : M Opn := mProp SC (bodyF 1 0 mWds) m
def plus (a b : M Opn) : M Opn := mOwnOp SC fAdd a b
def isInv (C : Str) : Option Bool := if C = "InvalidStamps" then some true else none
def mSum : SM := sSeq (sTry (sSeq (sRet (wds (plus (mSlot 0) (mSlot 1)))) sNext) isInv (sSeq (sRet (mVal .non)) sNext)) sNext
section
variable {P : Program} {w : World} {K : PySem.W.Frag} {mg : Str → Option Value} {base : Heap} {k : Nat} {g : Gh} {X : Cx} {W : WX} {fA fWd cE : Addr} {fdWd : FuncData}
theorem due_body (C : Wf false P w K mg base k nDue (defScope (top 20)) X g W) (zl : mg "len" = none) : DSs X g W (defBody (top 20)) mDue :=
  dss_cons (s_setC C 2 (e_add C (e_var C 0) (e_lc C [("ink", 3)] (i_src C (e_var C 1)) (fun X' C' => g_name C' 3) (fun X' C' => dts_one (t_cmp C' (c_notIn C') (e_var C' 3) (e_var C' 0))) (fun X' C' => e_var C' 3))))
  (dss_cons (s_if C (dt_bool (dw_or (t_cmp C c_gt (e_blt C (b_len C) zl (a_cons C (e_var C 2) (a_nil C))) de_int) (dw_or1 (t_cmp C (c_ne C) (e_lc C [("ink", 3)] (i_src C (e_var C 2)) (fun X' C' => g_name C' 3)
      (fun X' C' => dts_one (t_cmp C' (c_ne C') (e_blt C' (b_len C') zl (a_cons C' (e_var C' 3) (a_nil C'))) (e_blt C' (b_len C') zl (a_cons C' (e_ix C' (e_var C' 2) de_int) (a_nil C'))))) (fun X' C' => e_var C' 3)) (e_list C (a_nil C)))))) (dss_cons (ds_ret de_non) dss_nil) dss_nil)
  (dss_cons (ds_ret (de_if (t_cmp C c_le (e_mul C (e_blt C (b_len C) zl (a_cons C (e_var C 2) (a_nil C))) (e_blt C (b_len C) zl (a_cons C (e_ix C (e_var C 2) de_int) (a_nil C)))) de_int) (e_var C 2) de_non)) dss_nil))
theorem sum_body (C : Wf false P w K mg base 7 ["one", "other"] (defScope (top 21)) X g W) (hs : X.stack = X.env :: X.outer) (hf : X.env.frame = some X.env.locals) (hE : mg "InvalidStamps" = some (.ref cE)) (ct : Catch g (.ref cE) isInv)
    (ad : ∀ Cn c, Cn ∈ SC → mg Cn = some (.ref c) → Adds K c fA .Add) (dA : FnD false P w K mg base 7 fA g fAdd) (pw_ : ∀ Cn c, Cn ∈ SC → mg Cn = some (.ref c) → Cls K c ∧ ∃ pr, PropOf K c "words" pr fWd) (gW : FnG false P w K mg base 1 fWd fdWd ["self"] (spF g 1 (bodyF 1 0 mWds))) (bW : Binds K fdWd ["self"] []) : DSs X g W (defBody (top 21)) mSum :=
  dss_cons (s_try C hs hf hE ct (fun X' W' C' => dss_cons (ds_ret (e_prop C' pw_ gW bW (e_ownAdd C' ad dA (e_var C' 0) (e_var C' 1)))) dss_nil) (fun a pn => dss_cons (ds_ret de_non) dss_nil)) dss_nil
end
end Ov.K02


set_option Elab.async false
set_option linter.all false
set_option maxRecDepth 100000
set_option maxHeartbeats 4000000
namespace Ov.K02
open PySem PySem.Spec PyProof.Rows L2 Ov
def ofS (m : M Opn) : M Opn := mCls "Stamps" fOf (one1 m)
def cDue (a b : M Opn) : M Opn := M.bind (two2 a b) (callM (bodyF 2 2 mDue))
def cSum (a b : M Opn) : M Opn := M.bind (two2 a b) (callM (bodyF 2 0 mSum))
def rep (m : M Opn) : M Opn := mCallB (one1 m) (one dRepr)
def wid (m : M Opn) : M Opn := mProp SC (bodyF 1 0 mWid) m
def lenS (m : M Opn) : M Opn := mLenI SC (bodyF 1 0 mLen) m
def stTest : Tag → Option Bool
  | .own C => if C = "Stamps" then some true else none
  | .ty _ => none
def ne2 (a b : M Opn) : M Opn := m2 a b (pure2 dNeP)
def eq2 (a b : M Opn) : M Opn := m2 a b (pure2 dEqP)
def rF : SM := sSeq (sRet (mVal (.bl false))) sNext
/-! ### _law_right -/
abbrev nRight : List Str := ["first", "second", "one", "other", "due", "both", "again"]
theorem scRight : FnScope nRight ["first", "second"] (defScope (top 22)) := ⟨rfl, rfl, rfl, by decide +kernel, rfl, by decide +kernel, by decide +kernel⟩
def mRight : SM :=
  sSeq (sPar [2, 3, 4] (mCons (ofS (mSlot 0)) (mCons (ofS (mSlot 1)) (mCons (cDue (mSlot 0) (mSlot 1)) mNil))))
  (sSeq (sIf (bOr (mTest (ne2 (rep (cSum (mSlot 2) (mSlot 3))) (rep (mSlot 4)))) (bOr (mTest (ne2 (wds (mSlot 2)) (mSlot 0))) (mTest (ne2 (wds (mSlot 3)) (mSlot 1))))) rF sNext)
  (sSeq (sIf (mTest (m2 (mSlot 4) (mVal .non) (pure2 dIsN))) (sSeq (sRet (mVal (.bl true))) sNext) sNext)
  (sSeq (sAsg (plus (mSlot 2) (mSlot 3)) (setSl 5))
  (sSeq (sIf (bOr (mTest (mSame SC (mSlot 5) (mSlot 2))) (bOr (mTest (ne2 (wid (mSlot 5)) (ln (first0 (mSlot 4))))) (bOr (mTest (ne2 (lenS (mSlot 5)) (ln (mSlot 4)))) (bNot (mTru (mCallB (two2 (mSlot 5) (mVal (.cls "Stamps"))) (two (dIsiOwn "Stamps" stTest)))))))) rF sNext)
  (sSeq (sAsg (plus (mSlot 5) (mSlot 2)) (setSl 6))
  (sSeq (sRet (mAnd (eq2 (wds (mSlot 6)) (mSlot 4)) (mAnd (eq2 (wds (plus (mSlot 3) (mSlot 5))) (cDue (mSlot 1) (mSlot 4))) (eq2 (wds (plus (mSlot 2) (mSlot 2))) (mSlot 0))))) sNext))))))
section
variable {P : Program} {w : World} {K : PySem.W.Frag} {mg : Str → Option Value} {base : Heap} {k : Nat} {g : Gh} {X : Cx} {W : WX} {fA fWd fWi fL fO fD fS cS pr : Addr} {fdWd fdWi : FuncData} {mc : Value}
/-- what the law's defs need of the class Stamps and of each other -/
structure Nb (P : Program) (w : World) (K : PySem.W.Frag) (mg : Str → Option Value) (base : Heap) (g : Gh) : Prop where
  cls : ∃ (cS pr : Addr) (mc : Value) (fO : Addr), mg "Stamps" = some (.ref cS) ∧ ClX.CRead K cS mc ∧ ClX.CMet K cS mc "of" pr fO ∧ FnD false P w K mg base 6 fO g fOf
  add : ∃ fA, (∀ Cn c, Cn ∈ SC → mg Cn = some (.ref c) → Adds K c fA .Add) ∧ FnD false P w K mg base 7 fA g fAdd
  wds : ∃ (f : Addr) (fd : FuncData), (∀ Cn c, Cn ∈ SC → mg Cn = some (.ref c) → Cls K c ∧ ∃ pr, PropOf K c "words" pr f) ∧ FnG false P w K mg base 1 f fd ["self"] (spF g 1 (bodyF 1 0 mWds)) ∧ Binds K fd ["self"] []
  wid : ∃ (f : Addr) (fd : FuncData), (∀ Cn c, Cn ∈ SC → mg Cn = some (.ref c) → Cls K c ∧ ∃ pr, PropOf K c "width" pr f) ∧ FnG false P w K mg base 1 f fd ["self"] (spF g 1 (bodyF 1 0 mWid)) ∧ Binds K fd ["self"] []
  len : ∃ f, (∀ Cn c, Cn ∈ SC → mg Cn = some (.ref c) → Lens K c f) ∧ FnD false P w K mg base 1 f g (bodyF 1 0 mLen)
  eq : ∀ Cn c, Cn ∈ SC → mg Cn = some (.ref c) → Plain K c
  isi : ∀ c, g.mg "Stamps" = some (.ref c) → Isi g (.ref c) stTest
  due : ∃ f, mg "_law_due" = some (.ref f) ∧ PySem.W.keepIn K (.ref f) = true ∧ FnD false P w K mg base 2 f g (bodyF 2 2 mDue)
  sum : ∃ f, mg "_law_sum" = some (.ref f) ∧ PySem.W.keepIn K (.ref f) = true ∧ FnD false P w K mg base 8 f g (bodyF 2 0 mSum)
theorem right_body (C : Wf true P w K mg base 8 nRight (defScope (top 22)) X g W) (B : Nb P w K mg base g) (zl : mg "len" = none) (zr : mg "repr" = none) (zi : mg "isinstance" = none) : DSs X g W (defBody (top 22)) mRight := by
  obtain ⟨cS, pr, mc, fO, hS, rd, cm, dO⟩ := B.cls
  obtain ⟨fA, ad, dA⟩ := B.add
  obtain ⟨fWd, fdWd, pw_, gW, bW⟩ := B.wds
  obtain ⟨fWi, fdWi, pi_, gI, bI⟩ := B.wid
  obtain ⟨fL, lf, dL⟩ := B.len
  obtain ⟨fD, hD, kD, dD⟩ := B.due
  obtain ⟨fS, hU, kU, dU⟩ := B.sum
  exact dss_cons (ds_par3 C (i := 2) (j := 3) (l := 4) rfl rfl rfl (by decide) (by decide) (by decide) rfl rfl rfl
      (a_cons C (e_cmeth C hS rd cm dO (a_cons C (e_var C 0) (a_nil C))) (a_cons C (e_cmeth C hS rd cm dO (a_cons C (e_var C 1) (a_nil C))) (a_cons C (e_call C dD hD kD (a_cons C (e_var C 0) (a_cons C (e_var C 1) (a_nil C)))) (a_nil C))))
      (fun h1 h2 h3 h4 => by
        have k1 : X.env.blockKind = .function := by unfold Env.blockKind; rw [h1]; rfl
        have k2 : X.env.kindOf "one" = some .local := h2
        have k3 : X.env.kindOf "other" = some .local := h3
        have k4 : X.env.kindOf "due" = some .local := h4
        simp [swappedStores, k1, k2, k3, k4, List.filterMap]
        try rfl) rfl)
    (dss_cons (s_if C (dt_bool (dw_or (t_cmp C (c_ne C) (e_blt C (b_repr C) zr (a_cons C (e_call C dU hU kU (a_cons C (e_var C 2) (a_cons C (e_var C 3) (a_nil C)))) (a_nil C))) (e_blt C (b_repr C) zr (a_cons C (e_var C 4) (a_nil C))))
        (dw_or (t_cmp C (c_ne C) (e_prop C pw_ gW bW (e_var C 2)) (e_var C 0)) (dw_or1 (t_cmp C (c_ne C) (e_prop C pw_ gW bW (e_var C 3)) (e_var C 1)))))) (dss_cons (ds_ret de_bl) dss_nil) dss_nil)
    (dss_cons (s_if C (t_cmp C c_isN (e_var C 4) de_non) (dss_cons (ds_ret de_bl) dss_nil) dss_nil)
    (dss_cons (s_set C 5 (e_ownAdd C ad dA (e_var C 2) (e_var C 3)))
    (dss_cons (s_if C (dt_bool (dw_or (t_same1 C B.eq (e_var C 5) (e_var C 2)) (dw_or (t_cmp C (c_ne C) (e_prop C pi_ gI bI (e_var C 5)) (e_blt C (b_len C) zl (a_cons C (e_ix C (e_var C 4) de_int) (a_nil C))))
        (dw_or (t_cmp C (c_ne C) (e_lenI C lf dL zl (e_var C 5)) (e_blt C (b_len C) zl (a_cons C (e_var C 4) (a_nil C)))) (dw_or1 (dt_not (t_tru C (e_blt C (b_isiC C B.isi) zi (a_cons C (e_var C 5) (a_cons C (e_cls C hS) (a_nil C)))))))))) ) (dss_cons (ds_ret de_bl) dss_nil) dss_nil)
    (dss_cons (s_set C 6 (e_ownAdd C ad dA (e_var C 5) (e_var C 2)))
    (dss_cons (ds_ret (e_and C (e_cmp C (c_eq C) (e_prop C pw_ gW bW (e_var C 6)) (e_var C 4)) (e_and C (e_cmp C (c_eq C) (e_prop C pw_ gW bW (e_ownAdd C ad dA (e_var C 3) (e_var C 5))) (e_call C dD hD kD (a_cons C (e_var C 1) (a_cons C (e_var C 4) (a_nil C)))))
        (de_one (e_cmp C (c_eq C) (e_prop C pw_ gW bW (e_ownAdd C ad dA (e_var C 2) (e_var C 2))) (e_var C 0)))))) dss_nil))))))
end
end Ov.K02


set_option Elab.async false
set_option linter.all false
set_option maxRecDepth 100000
set_option maxHeartbeats 4000000
namespace Ov.K02
open PySem PySem.Spec PyProof.Rows L2 Ov
def cInks (a b : M Opn) : M Opn := M.bind (two2 a b) (callM (bodyF 2 6 mInks))
def cTape (a b : M Opn) : M Opn := M.bind (two2 a b) (callM (bodyF 2 1 mTape))
def cRight (a b : M Opn) : M Opn := M.bind (two2 a b) (callM (bodyF 2 5 mRight))
def mulS (a b : M Opn) : M Opn := m2 a b (pure2 dMulS)
def upTo (a b : M Opn) : M Opn := mSl a mNoPart (mPart b)
def six (s : String) : M Opn := mulS (st s) (n 6)
def newS (m : M Opn) : M Opn := M.bind (one1 m) (callM (newF "Stamps" fInit))
abbrev nLaw : List Str := ["script", "k", "tape", "turn", "first", "second", "wide", "ink", "spot", "some"]
theorem scLaw : FnScope nLaw ["script"] (defScope (top 23)) := ⟨rfl, rfl, rfl, by decide +kernel, rfl, by decide +kernel, by decide +kernel⟩
def mChange : SM :=
  sSeq (sAsg (ln (first0 (mSlot 4))) (setSl 6))
  (sSeq (sAsg (add (mLC (mSrc (mSlot 5)) (setSl 7) (M.ret true) (upTo (mulS (mSlot 7) (n 8)) (mSlot 6)) [7]) (upTo (mSlot 4) (cNext (mSlot 2) (n 3)))) (setSl 5))
  (sSeq (sAsg (mLC (mEnum (one1 (mSlot 5))) (asgTup (asgCons (setSl 8) (asgCons (setSl 7) asgNil)) 2) (mTest (m2 (mSlot 7) (upTo (mSlot 5) (mSlot 8)) (pure2 dNotIn))) (mSlot 7) [8, 7]) (setSl 5))
  (sSeq (sAsg (upTo (mSlot 5) (mCallB (two2 (n 6) (fd (n 36) (mSlot 6))) (two dMin))) (setSl 5)) sNext)))
def mTurn : SM :=
  sSeq (sAsg (mTup (two2 (cInks (mSlot 2) (n 8)) (cInks (mSlot 2) (n 8)))) (asgTup (asgCons (setSl 4) (asgCons (setSl 5) asgNil)) 2))
  (sSeq (sIf (mTest (m2 (cNext (mSlot 2) (n 3)) (n 0) (pure2 dGt))) mChange sNext)
  (sSeq (sIf (bOr (bNot (mTru (cRight (mSlot 4) (mSlot 5)))) (bNot (mTru (cRight (mSlot 5) (mSlot 4))))) rF sNext) sNext))
def mK : SM := sSeq (sAsg (cTape (mSlot 0) (mSlot 1)) (setSl 2)) (sSeq (sFor (mRange1 (one1 (n 12))) (setSl 3) mTurn) sNext)
def mLaw : SM :=
  sSeq (sFor (mRange1 (one1 (mCallB (two2 (n 1) (mCallB (two2 (n 4) (ln (mSlot 0))) (two dMin))) (two dMax)))) (setSl 1) mK)
  (sSeq (sAsg (mList (mCons (ofS (mList (mCons (st "aaaaaa") (mCons (six "b") (mCons (six "c") mNil))))) (mCons (ofS (mList (mCons (six "d") (mCons (six "e") (mCons (six "f") mNil))))) (mCons (newS (six "g")) mNil)))) (setSl 9))
  (sSeq (sIf (mTest (ne2 (wds (plus (m2 (mSlot 9) (n 0) (pure2 dIx)) (m2 (mSlot 9) (n 1) (pure2 dIx)))) (mList (mCons (st "aaaaaa") (mCons (six "b") (mCons (six "c") (mCons (six "d") (mCons (six "e") (mCons (six "f") mNil))))))))) rF sNext)
  (sSeq (sRet (mAnd (m2 (cSum (plus (m2 (mSlot 9) (n 0) (pure2 dIx)) (m2 (mSlot 9) (n 1) (pure2 dIx))) (m2 (mSlot 9) (n 2) (pure2 dIx))) (mVal .non) (pure2 dIsN)) (m2 (cSum (newS (st "a")) (newS (st "ab"))) (mVal .non) (pure2 dIsN)))) sNext)))
section
variable {P : Program} {w : World} {K : PySem.W.Frag} {mg : Str → Option Value} {base : Heap} {k : Nat} {g : Gh} {X : Cx} {W : WX}
structure Nl (P : Program) (w : World) (K : PySem.W.Frag) (mg : Str → Option Value) (base : Heap) (g : Gh) : Prop where
  next : ∃ f, mg "_law_next" = some (.ref f) ∧ PySem.W.keepIn K (.ref f) = true ∧ FnD false P w K mg base 1 f g (bodyF 2 2 mNext)
  tape : ∃ f, mg "_law_tape" = some (.ref f) ∧ PySem.W.keepIn K (.ref f) = true ∧ FnD false P w K mg base 1 f g (bodyF 2 1 mTape)
  inks : ∃ f, mg "_law_inks" = some (.ref f) ∧ PySem.W.keepIn K (.ref f) = true ∧ FnD false P w K mg base 2 f g (bodyF 2 6 mInks)
  right : ∃ f, mg "_law_right" = some (.ref f) ∧ PySem.W.keepIn K (.ref f) = true ∧ FnD true P w K mg base 9 f g (bodyF 2 5 mRight)
  make : ∃ (c f : Addr), mg "Stamps" = some (.ref c) ∧ Mk K c f ∧ FnD false P w K mg base 4 f g fInit
theorem law_body (C : Wf true P w K mg base 9 nLaw (defScope (top 23)) X g W) (B : Nb P w K mg base g) (L : Nl P w K mg base g) (zl : mg "len" = none) (zm : mg "min" = none) (zx : mg "max" = none) (zr : mg "range" = none) (ze : mg "enumerate" = none) : DSs X g W (defBody (top 23)) mLaw := by
  obtain ⟨cS, pr, mc, fO, hS, rd, cm, dO⟩ := B.cls
  obtain ⟨fA, ad, dA⟩ := B.add
  obtain ⟨fWd, fdWd, pw_, gW, bW⟩ := B.wds
  obtain ⟨fS, hU, kU, dU⟩ := B.sum
  obtain ⟨fN, hN, kN, dN⟩ := L.next
  obtain ⟨fT, hT, kT, dT⟩ := L.tape
  obtain ⟨fI, hI, kI, dI⟩ := L.inks
  obtain ⟨fR, hR, kR, dR⟩ := L.right
  obtain ⟨cM, fM, hM, mk, dM⟩ := L.make
  exact dss_cons (s_for C (i_range1 C zr (a_cons C (e_blt C (b_max C) zx (a_cons C de_int (a_cons C (e_blt C (b_min C) zm (a_cons C de_int (a_cons C (e_blt C (b_len C) zl (a_cons C (e_var C 0) (a_nil C))) (a_nil C)))) (a_nil C)))) (a_nil C))) (g_name C 1)
      (dss_cons (s_set C 2 (e_call C dT hT kT (a_cons C (e_var C 0) (a_cons C (e_var C 1) (a_nil C)))))
      (dss_cons (s_for C (i_range1 C zr (a_cons C de_int (a_nil C))) (g_name C 3)
        (dss_cons (s_asg2 C (e_tup C (a_cons C (e_call C dI hI kI (a_cons C (e_var C 2) (a_cons C de_int (a_nil C)))) (a_cons C (e_call C dI hI kI (a_cons C (e_var C 2) (a_cons C de_int (a_nil C)))) (a_nil C)))) (g_tup C (gs_cons C (g_name C 4) (gs_cons C (g_name C 5) (gs_nil C))))
          (hw := fun h => by
            have k1 : X.env.kindOf "second" = some .cell := h
            have k2 : X.env.kindOf "first" = some .local := C.loc _ rfl
            simp [swappedStores, k1, k2, List.filterMap]
            intro _ z
            exact absurd z (by decide)))
        (dss_cons (s_if C (t_cmp C c_gt (e_call C dN hN kN (a_cons C (e_var C 2) (a_cons C de_int (a_nil C)))) de_int)
          (dss_cons (s_setC C 6 (e_blt C (b_len C) zl (a_cons C (e_ix C (e_var C 4) de_int) (a_nil C))))
          (dss_cons (s_setC C 5 (e_add C (e_lc C [("ink", 7)] (i_src C (e_var C 5)) (fun X' C' => g_name C' 7) (fun X' C' => dts_nil) (fun X' C' => e_slice C' (e_mulS C' (e_var C' 7) de_int) do_none (o_some (e_var C' 6)))) (e_slice C (e_var C 4) do_none (o_some (e_call C dN hN kN (a_cons C (e_var C 2) (a_cons C de_int (a_nil C))))))))
          (dss_cons (s_setCLc C 5 (e_lc C [("spot", 8), ("ink", 7)] (i_enum C ze (a_cons C (e_var C 5) (a_nil C))) (fun X' C' => g_tup C' (gs_cons C' (g_name C' 8) (gs_cons C' (g_name C' 7) (gs_nil C')))) (fun X' C' => dts_one (t_cmp C' (c_notIn C') (e_var C' 7) (e_slice C' (e_var C' 5) do_none (o_some (e_var C' 8))))) (fun X' C' => e_var C' 7)))
          (dss_cons (s_setC C 5 (e_slice C (e_var C 5) do_none (o_some (e_blt C (b_min C) zm (a_cons C de_int (a_cons C (e_fdiv C de_int (e_var C 6)) (a_nil C))))))) dss_nil)))) dss_nil)
        (dss_cons (s_if C (dt_bool (dw_or (dt_not (t_tru C (e_call C dR hR kR (a_cons C (e_var C 4) (a_cons C (e_var C 5) (a_nil C)))))) (dw_or1 (dt_not (t_tru C (e_call C dR hR kR (a_cons C (e_var C 5) (a_cons C (e_var C 4) (a_nil C)))))))))
          (dss_cons (ds_ret de_bl) dss_nil) dss_nil) dss_nil)))) dss_nil)))
    (dss_cons (s_set C 9 (e_list C (a_cons C (e_cmeth C hS rd cm dO (a_cons C (e_list C (a_cons C de_str (a_cons C (e_mulS C de_str de_int) (a_cons C (e_mulS C de_str de_int) (a_nil C))))) (a_nil C)))
        (a_cons C (e_cmeth C hS rd cm dO (a_cons C (e_list C (a_cons C (e_mulS C de_str de_int) (a_cons C (e_mulS C de_str de_int) (a_cons C (e_mulS C de_str de_int) (a_nil C))))) (a_nil C)))
        (a_cons C (e_new C mk dM hM (a_cons C (e_mulS C de_str de_int) (a_nil C))) (a_nil C))))))
    (dss_cons (s_if C (t_cmp C (c_ne C) (e_prop C pw_ gW bW (e_ownAdd C ad dA (e_ix C (e_var C 9) de_int) (e_ix C (e_var C 9) de_int))) (e_list C (a_cons C de_str (a_cons C (e_mulS C de_str de_int) (a_cons C (e_mulS C de_str de_int) (a_cons C (e_mulS C de_str de_int) (a_cons C (e_mulS C de_str de_int) (a_cons C (e_mulS C de_str de_int) (a_nil C)))))))))
        (dss_cons (ds_ret de_bl) dss_nil) dss_nil)
    (dss_cons (ds_ret (e_and C (e_cmp C c_isN (e_call C dU hU kU (a_cons C (e_ownAdd C ad dA (e_ix C (e_var C 9) de_int) (e_ix C (e_var C 9) de_int)) (a_cons C (e_ix C (e_var C 9) de_int) (a_nil C)))) de_non)
        (de_one (e_cmp C c_isN (e_call C dU hU kU (a_cons C (e_new C mk dM hM (a_cons C de_str (a_nil C))) (a_cons C (e_new C mk dM hM (a_cons C de_str (a_nil C))) (a_nil C)))) de_non)))) dss_nil)))
end
end Ov.K02


set_option Elab.async false
set_option linter.all false
set_option maxRecDepth 100000
set_option maxHeartbeats 8000000
namespace Ov.K02
open PySem PySem.Spec PyProof.Rows L2 Ov
theorem one_class {mg : Str → Option Value} {cS : Addr} {T : Addr → Prop} (hS : mg "Stamps" = some (.ref cS)) (h : T cS) : ∀ Cn c, Cn ∈ SC → mg Cn = some (.ref c) → T c := fun Cn c hm e => by
  obtain rfl : Cn = "Stamps" := List.mem_singleton.mp hm
  rw [hS] at e
  cases e
  exact h
theorem all_mk {P : Program} {w : World} {K : PySem.W.Frag} {h : Heap} {mg : Str → Option Value} {fa : Addr} (X : K.In h) (G : h.Ns mainGlobals mg) (hfa : mg "law" = some (.ref fa))
    {fRow : Addr} {odRow anRow : Option Addr} {slRow : Array (Option Value)} {ocRow kVRow dcRow pmRow cdRow ctRow : Value}
    {fWds0 : Addr} {odWds0 anWds0 : Option Addr} {slWds0 : Array (Option Value)} {ocWds0 kVWds0 dcWds0 pmWds0 cdWds0 ctWds0 : Value}
    {fTape : Addr} {odTape anTape : Option Addr} {slTape : Array (Option Value)} {ocTape kVTape dcTape pmTape cdTape ctTape : Value}
    {fNext : Addr} {odNext anNext : Option Addr} {slNext : Array (Option Value)} {ocNext kVNext dcNext pmNext cdNext ctNext : Value}
    {fInks : Addr} {odInks anInks : Option Addr} {slInks : Array (Option Value)} {ocInks kVInks dcInks pmInks cdInks ctInks : Value}
    {fDue : Addr} {odDue anDue : Option Addr} {slDue : Array (Option Value)} {ocDue kVDue dcDue pmDue cdDue ctDue : Value}
    {fSum : Addr} {odSum anSum : Option Addr} {slSum : Array (Option Value)} {ocSum kVSum dcSum pmSum cdSum ctSum : Value}
    {fRight : Addr} {odRight anRight : Option Addr} {slRight : Array (Option Value)} {ocRight kVRight dcRight pmRight cdRight ctRight : Value}
    {fLaw : Addr} {odLaw anLaw : Option Addr} {slLaw : Array (Option Value)} {ocLaw kVLaw dcLaw pmLaw cdLaw ctLaw : Value}
    {fInit : Addr} {odInit anInit : Option Addr} {slInit : Array (Option Value)} {ocInit kVInit dcInit pmInit cdInit ctInit : Value}
    {fOf : Addr} {odOf anOf : Option Addr} {slOf : Array (Option Value)} {ocOf kVOf dcOf pmOf cdOf ctOf : Value}
    {fWds : Addr} {odWds anWds : Option Addr} {slWds : Array (Option Value)} {ocWds kVWds dcWds pmWds cdWds ctWds : Value}
    {fWid : Addr} {odWid anWid : Option Addr} {slWid : Array (Option Value)} {ocWid kVWid dcWid pmWid cdWid ctWid : Value}
    {fLen : Addr} {odLen anLen : Option Addr} {slLen : Array (Option Value)} {ocLen kVLen dcLen pmLen cdLen ctLen : Value}
    {fAdd : Addr} {odAdd anAdd : Option Addr} {slAdd : Array (Option Value)} {ocAdd kVAdd dcAdd pmAdd cdAdd ctAdd : Value}
    {cS cE pOf pWds pWid : Addr} {restOf restWds restWid : List Value} {t6 tL tW tM : Tok}
    (aRow : PySem.W.nsIn K mainGlobals "is_row" = some (some (.ref fRow)))
    (aWds0 : PySem.W.nsIn K mainGlobals "are_words" = some (some (.ref fWds0)))
    (aTape : PySem.W.nsIn K mainGlobals "_law_tape" = some (some (.ref fTape)))
    (aNext : PySem.W.nsIn K mainGlobals "_law_next" = some (some (.ref fNext)))
    (aInks : PySem.W.nsIn K mainGlobals "_law_inks" = some (some (.ref fInks)))
    (aDue : PySem.W.nsIn K mainGlobals "_law_due" = some (some (.ref fDue)))
    (aSum : PySem.W.nsIn K mainGlobals "_law_sum" = some (some (.ref fSum)))
    (aRight : PySem.W.nsIn K mainGlobals "_law_right" = some (some (.ref fRight)))
    (aLaw : PySem.W.nsIn K mainGlobals "law" = some (some (.ref fLaw)))
    (aS : PySem.W.nsIn K mainGlobals "Stamps" = some (some (.ref cS)))
    (aE : PySem.W.nsIn K mainGlobals "InvalidStamps" = some (some (.ref cE)))
    (iIn : PySem.W.findIn K (.ref cS) "__init__" = some (some (.ref fInit)))
    (cOf : PySem.W.findCls K (.ref cS) (.type "type") "of" = some (.get (.builtin "classmethod.__get__") (.ref pOf) .none (.ref cS)))
    (rOf : PySem.W.recIn K pOf "classmethod" = some (.ref fOf :: restOf))
    (pW : PySem.W.findIn K (.ref cS) "words" = some (some (.ref pWds)))
    (rW : PySem.W.recIn K pWds "property" = some (.ref fWds :: restWds))
    (pI : PySem.W.findIn K (.ref cS) "width" = some (some (.ref pWid)))
    (rI : PySem.W.recIn K pWid "property" = some (.ref fWid :: restWid))
    (iLn : PySem.W.findIn K (.ref cS) "__len__" = some (some (.ref fLen)))
    (iAd : PySem.W.findIn K (.ref cS) (PySem.dunder Operator.Add.info.2) = some (some (.ref fAdd)))
    (lRow : K.lookup fRow = some ⟨ocRow, odRow, .func (PySem.W.fnOf "is_row" "is_row" (defArgs (top 11)) (defBody (top 11)) (defScope (top 11)) .none kVRow dcRow pmRow anRow cdRow ctRow), slRow⟩)
    (cRowq : PySem.W.codeIn K cdRow "is_row" = true)
    (kRow : PySem.W.keepIn K (.ref fRow) = true)
    (lWds0 : K.lookup fWds0 = some ⟨ocWds0, odWds0, .func (PySem.W.fnOf "are_words" "are_words" (defArgs (top 13)) (defBody (top 13)) (defScope (top 13)) .none kVWds0 dcWds0 pmWds0 anWds0 cdWds0 ctWds0), slWds0⟩)
    (cWds0q : PySem.W.codeIn K cdWds0 "are_words" = true)
    (kWds0 : PySem.W.keepIn K (.ref fWds0) = true)
    (lTape : K.lookup fTape = some ⟨ocTape, odTape, .func (PySem.W.fnOf "_law_tape" "_law_tape" (defArgs (top 17)) (defBody (top 17)) (defScope (top 17)) .none kVTape dcTape pmTape anTape cdTape ctTape), slTape⟩)
    (cTapeq : PySem.W.codeIn K cdTape "_law_tape" = true)
    (kTape : PySem.W.keepIn K (.ref fTape) = true)
    (lNext : K.lookup fNext = some ⟨ocNext, odNext, .func (PySem.W.fnOf "_law_next" "_law_next" (defArgs (top 18)) (defBody (top 18)) (defScope (top 18)) .none kVNext dcNext pmNext anNext cdNext ctNext), slNext⟩)
    (cNextq : PySem.W.codeIn K cdNext "_law_next" = true)
    (kNext : PySem.W.keepIn K (.ref fNext) = true)
    (lInks : K.lookup fInks = some ⟨ocInks, odInks, .func (PySem.W.fnOf "_law_inks" "_law_inks" (defArgs (top 19)) (defBody (top 19)) (defScope (top 19)) .none kVInks dcInks pmInks anInks cdInks ctInks), slInks⟩)
    (cInksq : PySem.W.codeIn K cdInks "_law_inks" = true)
    (kInks : PySem.W.keepIn K (.ref fInks) = true)
    (lDue : K.lookup fDue = some ⟨ocDue, odDue, .func (PySem.W.fnOf "_law_due" "_law_due" (defArgs (top 20)) (defBody (top 20)) (defScope (top 20)) .none kVDue dcDue pmDue anDue cdDue ctDue), slDue⟩)
    (cDueq : PySem.W.codeIn K cdDue "_law_due" = true)
    (kDue : PySem.W.keepIn K (.ref fDue) = true)
    (lSum : K.lookup fSum = some ⟨ocSum, odSum, .func (PySem.W.fnOf "_law_sum" "_law_sum" (defArgs (top 21)) (defBody (top 21)) (defScope (top 21)) .none kVSum dcSum pmSum anSum cdSum ctSum), slSum⟩)
    (cSumq : PySem.W.codeIn K cdSum "_law_sum" = true)
    (kSum : PySem.W.keepIn K (.ref fSum) = true)
    (lRight : K.lookup fRight = some ⟨ocRight, odRight, .func (PySem.W.fnOf "_law_right" "_law_right" (defArgs (top 22)) (defBody (top 22)) (defScope (top 22)) .none kVRight dcRight pmRight anRight cdRight ctRight), slRight⟩)
    (cRightq : PySem.W.codeIn K cdRight "_law_right" = true)
    (kRight : PySem.W.keepIn K (.ref fRight) = true)
    (lLaw : K.lookup fLaw = some ⟨ocLaw, odLaw, .func (PySem.W.fnOf "law" "law" (defArgs (top 23)) (defBody (top 23)) (defScope (top 23)) .none kVLaw dcLaw pmLaw anLaw cdLaw ctLaw), slLaw⟩)
    (cLawq : PySem.W.codeIn K cdLaw "law" = true)
    (kLaw : PySem.W.keepIn K (.ref fLaw) = true)
    (lInit : K.lookup fInit = some ⟨ocInit, odInit, .func (PySem.W.fnOf "__init__" "Stamps.__init__" (defArgs (meth 1)) (defBody (meth 1)) (defScope (meth 1)) .none kVInit dcInit pmInit anInit cdInit ctInit), slInit⟩)
    (cInitq : PySem.W.codeIn K cdInit "Stamps.__init__" = true)
    (kInit : PySem.W.keepIn K (.ref fInit) = true)
    (lOf : K.lookup fOf = some ⟨ocOf, odOf, .func (PySem.W.fnOf "of" "Stamps.of" (defArgs (meth 2)) (defBody (meth 2)) (defScope (meth 2)) .none kVOf dcOf pmOf anOf cdOf ctOf), slOf⟩)
    (cOfq : PySem.W.codeIn K cdOf "Stamps.of" = true)
    (kOf : PySem.W.keepIn K (.ref fOf) = true)
    (lWds : K.lookup fWds = some ⟨ocWds, odWds, .func (PySem.W.fnOf "words" "Stamps.words" (defArgs (meth 3)) (defBody (meth 3)) (defScope (meth 3)) .none kVWds dcWds pmWds anWds cdWds ctWds), slWds⟩)
    (cWdsq : PySem.W.codeIn K cdWds "Stamps.words" = true)
    (kWds : PySem.W.keepIn K (.ref fWds) = true)
    (lWid : K.lookup fWid = some ⟨ocWid, odWid, .func (PySem.W.fnOf "width" "Stamps.width" (defArgs (meth 4)) (defBody (meth 4)) (defScope (meth 4)) .none kVWid dcWid pmWid anWid cdWid ctWid), slWid⟩)
    (cWidq : PySem.W.codeIn K cdWid "Stamps.width" = true)
    (kWid : PySem.W.keepIn K (.ref fWid) = true)
    (lLen : K.lookup fLen = some ⟨ocLen, odLen, .func (PySem.W.fnOf "__len__" "Stamps.__len__" (defArgs (meth 5)) (defBody (meth 5)) (defScope (meth 5)) .none kVLen dcLen pmLen anLen cdLen ctLen), slLen⟩)
    (cLenq : PySem.W.codeIn K cdLen "Stamps.__len__" = true)
    (kLen : PySem.W.keepIn K (.ref fLen) = true)
    (lAdd : K.lookup fAdd = some ⟨ocAdd, odAdd, .func (PySem.W.fnOf "__add__" "Stamps.__add__" (defArgs (meth 6)) (defBody (meth 6)) (defScope (meth 6)) .none kVAdd dcAdd pmAdd anAdd cdAdd ctAdd), slAdd⟩)
    (cAddq : PySem.W.codeIn K cdAdd "Stamps.__add__" = true)
    (kAdd : PySem.W.keepIn K (.ref fAdd) = true)
    (rd : PySem.W.readsIn K cS (.type "type") = true)
    (ga : PySem.W.specialIn K (.ref cS) "__getattribute__" = some (some (.builtin "type.__getattribute__")))
    (mo : PySem.W.findCls K (.ref cS) (.type "type") "MOST" = some (.val (.int 6 t6)))
    (fi : PySem.W.fnIn K fOf = true)
    (mk : PySem.W.makesIn K cS = true)
    (fnI : PySem.W.isFn K (.ref fInit) = true)
    (kS : PySem.W.keepIn K (.ref cS) = true)
    (pg : PySem.W.plainGet K cS Str.empty = true)
    (hd : PySem.W.hasDictIn K cS = true)
    (po : PySem.W.plainOver K cS = true)
    (sa : PySem.W.findIn K (.ref cS) "__setattr__" = some (some (.builtin "object.__setattr__")))
    (nh : PySem.W.findIn K (.ref cS) "held_words" = some none)
    (gWds_ : PySem.W.specialIn K (.ref pWds) "__get__" = some (some (.builtin "property.__get__")))
    (tWds : PySem.W.takesIn K (.ref pWds) = some true)
    (gWid_ : PySem.W.specialIn K (.ref pWid) "__get__" = some (some (.builtin "property.__get__")))
    (tWid : PySem.W.takesIn K (.ref pWid) = some true)
    (sf : PySem.W.selfFirst K cS = true)
    (fnA : PySem.W.isFn K (.ref fAdd) = true)
    (fnL : PySem.W.isFn K (.ref fLen) = true)
    (mob : PySem.W.mroIn K cS (.type "object") = some true)
    (eqS : PySem.W.findIn K (.ref cS) "__eq__" = some (some (.builtin "object.__eq__")))
    (ha : PySem.W.findIn K (.ref cS) "__class__" = some (some (.builtin "object.__class__")))
    (hn : PySem.W.specialIn K (.builtin "object.__class__") "__get__" = some (some (.builtin "getset_descriptor.__get__")))
    (htk : PySem.W.takesIn K (.builtin "object.__class__") = some true)
    (exc : PySem.W.excIn K cE [.type "ValueError", .type "Exception", .type "BaseException", .type "object"] "ValueError.__new__" = true)
    (kE : PySem.W.keepIn K (.ref cE) = true)
    (sE : PySem.W.subIn K (.ref cE) (.type "BaseException") = some true)
    (tE : PySem.W.typeIn K (.ref cE) = some (.type "type"))
    (isE : PySem.W.isClsIn K cE = true)
    (selfE : PySem.W.subIn K (.ref cE) (.ref cE) = some true)
    (gL : PySem.W.nsIn K mainGlobals "LETTERS" = some (some (.str ltr tL)))
    (gW : PySem.W.nsIn K mainGlobals "MOST_WIDTH" = some (some (.int 8 tW)))
    (gM : PySem.W.nsIn K mainGlobals "MOST_LETTERS" = some (some (.int 36 tM)))
    (z_len : PySem.W.nsIn K mainGlobals "len" = some none)
    (z_abs : PySem.W.nsIn K mainGlobals "abs" = some none)
    (z_max : PySem.W.nsIn K mainGlobals "max" = some none)
    (z_min : PySem.W.nsIn K mainGlobals "min" = some none)
    (z_range : PySem.W.nsIn K mainGlobals "range" = some none)
    (z_enumerate : PySem.W.nsIn K mainGlobals "enumerate" = some none)
    (z_all : PySem.W.nsIn K mainGlobals "all" = some none)
    (z_isinstance : PySem.W.nsIn K mainGlobals "isinstance" = some none)
    (z_str : PySem.W.nsIn K mainGlobals "str" = some none)
    (z_list : PySem.W.nsIn K mainGlobals "list" = some none)
    (z_set : PySem.W.nsIn K mainGlobals "set" = some none)
    (z_repr : PySem.W.nsIn K mainGlobals "repr" = some none) :
    ∃ fd : FuncData, (∀ (s : Shared) (v : Value), BindsTo s fd ⟨[v], []⟩ [("script", v)]) ∧ ∀ base : Heap, K.In base → base.Ns mainGlobals mg → FnG true P w K mg base 10 fa fd ["script"] (spF ⟨K, mg⟩ 1 (bodyF 1 9 mLaw)) := by
  have e := hfa.symm.trans (PySem.W.mg_of X G aLaw)
  cases e
  have hS := PySem.W.mg_of X G aS
  have hE := PySem.W.mg_of X G aE
  have hRow := PySem.W.mg_of X G aRow
  have hWds0 := PySem.W.mg_of X G aWds0
  have hTape := PySem.W.mg_of X G aTape
  have hNext := PySem.W.mg_of X G aNext
  have hInks := PySem.W.mg_of X G aInks
  have hDue := PySem.W.mg_of X G aDue
  have hSum := PySem.W.mg_of X G aSum
  have hRight := PySem.W.mg_of X G aRight
  have hLaw := PySem.W.mg_of X G aLaw
  replace z_len := PySem.W.mg_none_of X G z_len
  replace z_abs := PySem.W.mg_none_of X G z_abs
  replace z_max := PySem.W.mg_none_of X G z_max
  replace z_min := PySem.W.mg_none_of X G z_min
  replace z_range := PySem.W.mg_none_of X G z_range
  replace z_enumerate := PySem.W.mg_none_of X G z_enumerate
  replace z_all := PySem.W.mg_none_of X G z_all
  replace z_isinstance := PySem.W.mg_none_of X G z_isinstance
  replace z_str := PySem.W.mg_none_of X G z_str
  replace z_list := PySem.W.mg_none_of X G z_list
  replace z_set := PySem.W.mg_none_of X G z_set
  replace z_repr := PySem.W.mg_none_of X G z_repr
  have ct : PySem.W.exmOne K (.ref cE) (.ref cE) = some true := by
    have q : ((PySem.W.clsIn K cE).isSome && PySem.W.typeIn K (.ref cE) == some (.type "type")) = true := by
      rw [show (PySem.W.clsIn K cE).isSome = true from isE, tE]
      rfl
    have inner : PySem.W.kitCls K (.ref cE) (.ref cE) = some true := (if_pos q).trans selfE
    exact (if_pos (by rw [sE]; rfl)).trans inner
  have cl : Cls K cS := ⟨pg, hd, po, sa⟩
  have own : Own K mg "InvalidStamps" := ⟨_, _, _, _, cE, PySem.F.excBase_ValueError, exc, hE, kE, sE, tE⟩
  have crd : ClX.CRead K cS (.type "type") := ⟨rd, ga⟩
  have cm : ClX.CMet K cS (.type "type") "of" pOf fOf := ⟨cOf, ⟨_, rOf⟩, fi⟩
  have mkS : Mk K cS fInit := ⟨mk, iIn, fnI, kS⟩
  have bears : Bears ⟨K, mg⟩ SC "held_words" := fun Cn c hm e => one_class (T := fun c => Cls K c ∧ NoAttr K c "held_words") hS ⟨cl, nh⟩ Cn c hm e
  have gLt : ∃ u, mg "LETTERS" = some u ∧ RelV (.str ltr) u := ⟨_, PySem.W.mg_of X G gL, ⟨_, rfl⟩⟩
  have gWd : ∃ u, mg "MOST_WIDTH" = some u ∧ RelV (.int 8) u := ⟨_, PySem.W.mg_of X G gW, ⟨_, rfl⟩⟩
  have gMo : ∃ u, mg "MOST_LETTERS" = some u ∧ RelV (.int 36) u := ⟨_, PySem.W.mg_of X G gM, ⟨_, rfl⟩⟩
  have sees : Seen K cS := ⟨cl, ha, hn, htk, mob⟩
  have FRow := fun_mk (st := top 11) lRow cRowq kRow
  have bRow := FRow.binds (ps := ["thing", "signs", "most"]) fun _ _ _ _ _ _ us hl => match us, hl with | [_, _, _], _ => rfl
  have FWds0 := fun_mk (st := top 13) lWds0 cWds0q kWds0
  have bWds0 := FWds0.binds (ps := ["thing"]) fun _ _ _ _ _ _ us hl => match us, hl with | [_], _ => rfl
  have FTape := fun_mk (st := top 17) lTape cTapeq kTape
  have bTape := FTape.binds (ps := ["script", "k"]) fun _ _ _ _ _ _ us hl => match us, hl with | [_, _], _ => rfl
  have FNext := fun_mk (st := top 18) lNext cNextq kNext
  have bNext := FNext.binds (ps := ["tape", "many"]) fun _ _ _ _ _ _ us hl => match us, hl with | [_, _], _ => rfl
  have FInks := fun_mk (st := top 19) lInks cInksq kInks
  have bInks := FInks.binds (ps := ["tape", "most"]) fun _ _ _ _ _ _ us hl => match us, hl with | [_, _], _ => rfl
  have FDue := fun_mk (st := top 20) lDue cDueq kDue
  have bDue := FDue.binds (ps := ["first", "second"]) fun _ _ _ _ _ _ us hl => match us, hl with | [_, _], _ => rfl
  have FSum := fun_mk (st := top 21) lSum cSumq kSum
  have bSum := FSum.binds (ps := ["one", "other"]) fun _ _ _ _ _ _ us hl => match us, hl with | [_, _], _ => rfl
  have FRight := fun_mk (st := top 22) lRight cRightq kRight
  have bRight := FRight.binds (ps := ["first", "second"]) fun _ _ _ _ _ _ us hl => match us, hl with | [_, _], _ => rfl
  have FLaw := fun_mk (st := top 23) lLaw cLawq kLaw
  have bLaw := FLaw.binds (ps := ["script"]) fun _ _ _ _ _ _ us hl => match us, hl with | [_], _ => rfl
  have FInit := fun_mk (st := meth 1) lInit cInitq kInit
  have FOf := fun_mk (st := meth 2) lOf cOfq kOf
  have bOf := FOf.binds (ps := ["cls", "words"]) fun _ _ _ _ _ _ us hl => match us, hl with | [_, _], _ => rfl
  have FWds := fun_mk (st := meth 3) lWds cWdsq kWds
  have bWds := FWds.binds (ps := ["self"]) fun _ _ _ _ _ _ us hl => match us, hl with | [_], _ => rfl
  have FWid := fun_mk (st := meth 4) lWid cWidq kWid
  have bWid := FWid.binds (ps := ["self"]) fun _ _ _ _ _ _ us hl => match us, hl with | [_], _ => rfl
  have FLen := fun_mk (st := meth 5) lLen cLenq kLen
  have bLen := FLen.binds (ps := ["self"]) fun _ _ _ _ _ _ us hl => match us, hl with | [_], _ => rfl
  have FAdd := fun_mk (st := meth 6) lAdd cAddq kAdd
  have bAdd := FAdd.binds (ps := ["self", "other"]) fun _ _ _ _ _ _ us hl => match us, hl with | [_, _], _ => rfl
  refine ⟨PySem.W.fnOf "law" "law" (defArgs (top 23)) (defBody (top 23)) (defScope (top 23)) .none kVLaw dcLaw pmLaw anLaw cdLaw ctLaw, fun s v => .of_eq rfl, fun base _ _ => ?_⟩
  have gRow := fnG_of (P := P) (w := w) (base := base) (k := 0) (mg := mg) (qr := false) (n := 1) FRow scRow rfl rfl rfl fun X W C _ _ _ => row_body C z_len z_all z_isinstance z_str
  have dRow := fnD_of gRow bRow
  have dWds0 := fnD_of (fnG_of (P := P) (w := w) (base := base) (k := 2) (mg := mg) (qr := false) (n := 2) FWds0 scWords rfl rfl rfl fun X W C _ _ _ => words_body C dRow hRow kRow gLt gWd gMo hS crd mo ⟨_, rfl⟩ z_len z_all z_isinstance z_list z_set) bWds0
  have dInit := fnD_star (P := P) (w := w) (mg := mg) (base := base) (k := 3) (n := 0) FInit scInit rfl rfl (fun kV dc pm an cd ct us rest hl => match us, hl with | [a], _ => by cases rest <;> rfl) fun X W C _ _ => init_body C dWds0 hWds0 kWds0 z_list own bears
  have dOf := fnD_of (fnG_of (P := P) (w := w) (base := base) (k := 5) (mg := mg) (qr := false) (n := 0) FOf scOf rfl rfl rfl fun X W C _ _ _ => of_body C dWds0 hWds0 kWds0 own mkS dInit hS) bOf
  have gWds := fnG_of (P := P) (w := w) (base := base) (k := 0) (mg := mg) (qr := false) (n := 0) FWds scSelf3 rfl rfl rfl fun X W C _ _ _ => wds_body C z_list bears
  have gWid := fnG_of (P := P) (w := w) (base := base) (k := 0) (mg := mg) (qr := false) (n := 0) FWid scSelf4 rfl rfl rfl fun X W C _ _ _ => wid_body C z_len bears
  have dLen := fnD_of (fnG_of (P := P) (w := w) (base := base) (k := 0) (mg := mg) (qr := false) (n := 0) FLen scSelf5 rfl rfl rfl fun X W C _ _ _ => len_body C z_len bears) bLen
  have dAdd := fnD_of (fnG_of (P := P) (w := w) (base := base) (k := 6) (mg := mg) (qr := false) (n := 2) FAdd scAdd rfl rfl rfl fun X W C _ _ _ => add_body C dOf hS crd cm bears) bAdd
  have dNext := fnD_of (next_ok (P := P) (w := w) (mg := mg) (base := base) (k := 0) FNext) bNext
  have dTape := fnD_of (fnG_of (P := P) (w := w) (base := base) (k := 0) (mg := mg) (qr := false) (n := 1) FTape scTape rfl rfl rfl fun X W C _ _ _ => tape_body C z_len z_abs z_max) bTape
  have dInks := fnD_of (fnG_of (P := P) (w := w) (base := base) (k := 1) (mg := mg) (qr := false) (n := 6) FInks scInks rfl rfl rfl fun X W C _ _ _ => inks_body C dNext hNext kNext z_len z_min z_range) bInks
  have dDue := fnD_of (fnG_of (P := P) (w := w) (base := base) (k := 1) (mg := mg) (qr := false) (n := 2) FDue scDue rfl rfl rfl fun X W C _ _ _ => due_body C z_len) bDue
  have ads : ∀ Cn c, Cn ∈ SC → mg Cn = some (.ref c) → Adds K c fAdd .Add := one_class hS ⟨sf, iAd, fnA⟩
  have pws : ∀ Cn c, Cn ∈ SC → mg Cn = some (.ref c) → Cls K c ∧ ∃ pr, PropOf K c "words" pr fWds := one_class hS ⟨cl, pWds, ⟨pW, gWds_, tWds, ⟨_, rW⟩⟩⟩
  have pis : ∀ Cn c, Cn ∈ SC → mg Cn = some (.ref c) → Cls K c ∧ ∃ pr, PropOf K c "width" pr fWid := one_class hS ⟨cl, pWid, ⟨pI, gWid_, tWid, ⟨_, rI⟩⟩⟩
  have catch_ : Catch ⟨K, mg⟩ (.ref cE) isInv := fun C b cls h e => by
    unfold isInv at h
    by_cases hc : C = "InvalidStamps"
    · rw [if_pos hc] at h
      cases h
      subst hc
      rw [show (Gh.mk K mg).mg = mg from rfl, hE] at e
      cases e
      exact ct
    · rw [if_neg hc] at h
      cases h
  have dSum := fnD_of (fnG_of (P := P) (w := w) (base := base) (k := 7) (mg := mg) (qr := false) (n := 0) FSum scSum rfl rfl rfl fun X W C hs hf _ => sum_body C hs hf hE catch_ ads dAdd pws gWds bWds) bSum
  have nb : Nb P w K mg base ⟨K, mg⟩ := ⟨⟨cS, pOf, .type "type", fOf, hS, crd, cm, dOf⟩, ⟨fAdd, ads, dAdd⟩, ⟨fWds, _, pws, gWds, bWds⟩, ⟨fWid, _, pis, gWid, bWid⟩, ⟨fLen, one_class hS ⟨iLn, fnL⟩, dLen⟩, one_class hS ⟨mob, eqS⟩, fun c e => ⟨(fun n b h => nomatch h), fun C b c2 h e2 => by
      unfold stTest at h
      dsimp only at h
      by_cases hc : C = "Stamps"
      · rw [if_pos hc] at h
        cases h
        subst hc
        rw [show (Gh.mk K mg).mg = mg from rfl, hS] at e e2
        cases e
        cases e2
        exact ⟨sees, if_pos (beq_self_eq_true _)⟩
      · rw [if_neg hc] at h
        cases h⟩, ⟨fDue, hDue, kDue, dDue⟩, ⟨fSum, hSum, kSum, dSum⟩⟩
  have dRight := fnD_of (fnG_of (P := P) (w := w) (base := base) (k := 8) (mg := mg) (qr := true) (n := 5) FRight scRight rfl rfl rfl fun X W C _ _ _ => right_body C nb z_len z_repr z_isinstance) bRight
  have nl : Nl P w K mg base ⟨K, mg⟩ := ⟨⟨fNext, hNext, kNext, dNext⟩, ⟨fTape, hTape, kTape, dTape⟩, ⟨fInks, hInks, kInks, dInks⟩, ⟨fRight, hRight, kRight, dRight⟩, ⟨cS, fInit, hS, mkS, dInit⟩⟩
  exact fnG_of (P := P) (w := w) (base := base) (k := 9) (mg := mg) (qr := true) (n := 9) FLaw scLaw rfl rfl rfl fun X W C _ _ _ => law_body C nb nl z_len z_min z_max z_range z_enumerate
end Ov.K02


set_option Elab.async false
set_option linter.all false
set_option maxRecDepth 100000
set_option maxHeartbeats 4000000
namespace Ov.K02
open PySem PySem.Spec PyProof.Rows L2 Ov
/-! ### the tape -/
abbrev T (a b c : Int) : D := .lst [.int a, .int b, .int c]
abbrev tp (a b c : Int) : Cell := ⟨true, T a b c⟩
structure Tk (b c : Int) : Prop where
  b0 : 0 ≤ b
  b1 : b < 2 ^ 140
  c0 : 0 ≤ c
  c1 : c < 2 ^ 30
theorem log2_lt {x : Int} {k : Nat} (h0 : 0 ≤ x) (h : x < 2 ^ k) (hk : k ≠ 0) : x.natAbs.log2 < k := by
  have h2 : x.natAbs < 2 ^ k := by
    have e : ((2 ^ k : Nat) : Int) = (2 : Int) ^ k := by norm_cast
    omega
  by_cases z : x.natAbs = 0
  · rw [z]
    exact Nat.pos_of_ne_zero hk
  · exact (Nat.log2_lt z).mpr h2
theorem bits_le {x : Int} (h0 : 0 ≤ x) (h : x < 2 ^ 200) : (Builtin.Int.intBits x : Int) * 3 ≤ 2 ^ 27 := by
  have h1 := log2_lt h0 h (by decide)
  unfold Builtin.Int.intBits
  split <;> omega
theorem next_mixed {a b c m : Int} {cnt : Nat} (ha : ¬ 0 < a) (t : Tk b c) (hm : 0 < m) :
    ∃ r, bodyF 2 2 mNext [tp a b c, ⟨false, .int m⟩] cnt = .ok ⟨false, .int r⟩ [tp a b (c + 1), ⟨false, .int m⟩] cnt ∧ 0 ≤ r ∧ r < m := by
  obtain ⟨b0, b1, c0, c1⟩ := t
  have m1 : (0 : Int) < 10 ^ (40 : Int).toNat + 121 := by decide
  have m2 : (0 : Int) < 10 ^ (39 : Int).toNat + 3 := by decide
  have up1 : (10 : Int) ^ (40 : Int).toNat + 121 < 2 ^ 140 := by decide
  have l1 : (32416187567 : Int).natAbs.log2 + (c + 1).natAbs.log2 < 1000000 := by
    have h1 : (c + 1).natAbs.log2 < 31 := log2_lt (by omega) (by omega) (by decide)
    have h2 : (32416187567 : Int).natAbs.log2 < 40 := by decide
    omega
  have l2 : (27644437 : Int).natAbs.log2 + (c + 1).natAbs.log2 < 1000000 := by
    have h1 : (c + 1).natAbs.log2 < 31 := log2_lt (by omega) (by omega) (by decide)
    have h2 : (27644437 : Int).natAbs.log2 < 40 := by decide
    omega
  have q1 := bits_le (x := b + 32416187567 * (c + 1)) (by omega) (by omega)
  have x0 := Int.emod_nonneg ((b + 32416187567 * (c + 1)) ^ (3 : Int).toNat) (Int.ne_of_gt m1)
  have x1 := Int.emod_lt_of_pos ((b + 32416187567 * (c + 1)) ^ (3 : Int).toNat) m1
  have q2 := bits_le (x := (b + 32416187567 * (c + 1)) ^ (3 : Int).toNat % (10 ^ (40 : Int).toNat + 121) + 27644437 * (c + 1)) (by omega) (by omega)
  refine ⟨_, v_body rfl
    (v_seq (v_ifF (v_test (v_op (v_op (v_slot rfl) v_val rfl rfl rfl) v_val rfl rfl dGt_i) rfl) (decide_eq_false ha) v_next)
    (v_seq (v_expr (v_put (v_op (v_op (v_slot rfl) v_val rfl rfl rfl) v_val rfl rfl dAdd_i) rfl v_val rfl rfl rfl rfl))
    (v_seq (v_asg (v_op (v_op (v_op (v_op (v_slot rfl) v_val rfl rfl rfl) (v_op v_val (v_op (v_slot rfl) v_val rfl rfl rfl) rfl rfl (dMul_i l1)) rfl rfl dAdd_i) v_val rfl rfl (dPow_i (by decide) q1)) (v_op (v_op v_val v_val rfl rfl (dPow_i (by decide) (by decide))) v_val rfl rfl dAdd_i) rfl rfl (dMod_i m1)) rfl rfl)
    (v_seq (v_asg (v_op (v_op (v_op (v_slot rfl) (v_op v_val (v_op (v_slot rfl) v_val rfl rfl rfl) rfl rfl (dMul_i l2)) rfl rfl dAdd_i) v_val rfl rfl (dPow_i (by decide) q2)) (v_op (v_op v_val v_val rfl rfl (dPow_i (by decide) (by decide))) v_val rfl rfl dAdd_i) rfl rfl (dMod_i m2)) rfl rfl)
    (v_seqR (v_ret (v_op (v_op (v_slot rfl) v_val rfl rfl (dFdiv_i (by decide) (by decide))) (v_slot rfl) rfl rfl (dMod_i hm)) rfl)))))) rfl rfl, Int.emod_nonneg _ (Int.ne_of_gt hm), Int.emod_lt_of_pos _ hm⟩
end Ov.K02


set_option Elab.async false
set_option linter.all false
set_option maxRecDepth 100000
set_option maxHeartbeats 4000000
namespace Ov.K02
open PySem PySem.Spec PyProof.Rows L2 Ov
theorem next_any {a b c m : Int} {cnt : Nat} (t : Tk b c) (hm : 0 < m) (hm2 : m < 2 ^ 62) :
    ∃ r a' c', bodyF 2 2 mNext [tp a b c, ⟨false, .int m⟩] cnt = .ok ⟨false, .int r⟩ [tp a' b c', ⟨false, .int m⟩] cnt ∧ 0 ≤ r ∧ r < m ∧ c ≤ c' ∧ c' ≤ c + 1 := by
  by_cases ha : 0 < a
  · exact ⟨_, _, c, next_digit ha hm (Nat.lt_of_lt_of_le (log2_lt (Int.le_of_lt hm) hm2 (by decide)) (by decide)), Int.emod_nonneg _ (Int.ne_of_gt hm), Int.emod_lt_of_pos _ hm, Int.le_refl _, by omega⟩
  · obtain ⟨r, e, h0, h1⟩ := next_mixed (cnt := cnt) ha t hm
    exact ⟨r, a, c + 1, e, h0, h1, by omega, Int.le_refl _⟩
theorem call_next {S S1 : Sta} {i : Nat} {mb : M Opn} {o : Opn} {a b c m : Int} (g0 : S.sl[i]? = some (some (tp a b c))) (h : mb S = .ok o S1) (g : S1.sl[i]? = some (some (tp a b c))) (ho : curC S1 o = some ⟨false, .int m⟩) (t : Tk b c) (hm : 0 < m) (hm2 : m < 2 ^ 62) :
    ∃ r a' c', cNext (mSlot i) mb S = .ok (.v ⟨false, .int r⟩) (mutS S1 i (T a' b c')) ∧ 0 ≤ r ∧ r < m ∧ c ≤ c' ∧ c' ≤ c + 1 := by
  obtain ⟨r, a', c', e, h0, h1, h2, h3⟩ := next_any (a := a) (cnt := S1.cnt) t hm hm2
  refine ⟨r, a', c', v_bind (v_cons (v_slot g0) (v_cons h v_nil)) ((v_call (cs := [tp a b c, ⟨false, .int m⟩]) ?_ ?_ e).trans ?_), h0, h1, h2, h3⟩
  · have z : curC S1 (.s i) = some (tp a b c) := by
      show S1.sl[i]?.join = _
      rw [g]
      rfl
    simp [z, ho]
  · have z : isS o i = false := by
      cases q : isS o i with
      | false => rfl
      | true =>
        rw [isS_iff] at q
        subst q
        have z : curC S1 (.s i) = some (tp a b c) := by
          show S1.sl[i]?.join = _
          rw [g]
          rfl
        rw [z] at ho
        cases ho
    have zi : isS (.s i) i = true := isS_iff.mpr rfl
    cases o <;> simp [dist, z]
    all_goals simp [isS] at z ⊢
    all_goals exact z
  · cases o <;> rfl
end Ov.K02


set_option Elab.async false
set_option linter.all false
set_option maxRecDepth 100000
set_option maxHeartbeats 4000000
namespace Ov.K02
open PySem PySem.Spec PyProof.Rows L2 Ov
/-! ### the inks -/
def Low (c : Nat) : Prop := 97 ≤ c ∧ c ≤ 122
instance (c : Nat) : Decidable (Low c) := inferInstanceAs (Decidable (_ ∧ _))
/-- a word of small letters -/
structure Wd (w : Nat) (x : Str) : Prop where
  len : x.length = w
  low : ∀ c ∈ x.cps.toList, Low c
theorem Wd.tx {w : Nat} {x : Str} (h : Wd w x) : Tx x := fun c hc => Nat.lt_of_le_of_lt (h.low c hc).2 (by decide)
structure Pool (p : Str) : Prop where
  some : 0 < p.length
  few : p.length ≤ 26
  low : ∀ c ∈ p.cps.toList, Low c
def p0 : Str := "ab"
def p1 : Str := "abc"
def p2 : Str := "aab"
def p3 : Str := "abcdefghijklmnopqrstuvwxyz"
theorem pool0 : Pool p0 := ⟨by decide +kernel, by decide +kernel, by decide +kernel⟩
theorem pool1 : Pool p1 := ⟨by decide +kernel, by decide +kernel, by decide +kernel⟩
theorem pool2 : Pool p2 := ⟨by decide +kernel, by decide +kernel, by decide +kernel⟩
theorem pool3 : Pool p3 := ⟨by decide +kernel, by decide +kernel, by decide +kernel⟩
theorem pool_at {r : Int} (h0 : 0 ≤ r) (h1 : r < 4) : ∃ p, dIx (.lst [.str p0, .str p1, .str p2, .str p3]) (.int r) = some ⟨false, .str p⟩ ∧ Pool p := by
  have h : r = 0 ∨ r = 1 ∨ r = 2 ∨ r = 3 := by omega
  rcases h with rfl | rfl | rfl | rfl
  · exact ⟨_, rfl, pool0⟩
  · exact ⟨_, rfl, pool1⟩
  · exact ⟨_, rfl, pool2⟩
  · exact ⟨_, rfl, pool3⟩
theorem dLen_str {x : Str} (h : x.length ≤ sizeLine) : one dLen [.str x] = some ⟨false, .int x.length⟩ := by
  unfold one dLen
  dsimp only
  rw [show dLenN (.str x) = some x.length from if_pos h]
  rfl
theorem size26 : 26 ≤ sizeLine := by rw [sizeLine_eq]; decide
theorem str_at {p : Str} {r : Int} (hp : Pool p) (h0 : 0 ≤ r) (h1 : r < p.length) : ∃ ch, dIx (.str p) (.int r) = some ⟨false, .str ⟨#[ch]⟩⟩ ∧ Low ch := by
  have hl : p.cps.toList.length = p.length := by simp [Str.length]
  have hi : r.toNat < p.cps.toList.length := by omega
  refine ⟨p.cps.toList[r.toNat], ?_, hp.low _ (List.getElem_mem hi)⟩
  show (if p.length ≤ sizeLine then _ else _) = _
  rw [if_pos (Nat.le_trans hp.few size26)]
  have e : atI p.cps.toList r = some p.cps.toList[r.toNat] := by
    unfold atI ixN
    rw [if_pos h0, if_pos (by omega)]
    simp
  rw [e]
  rfl
theorem joinL_one : ∀ (cs : List Nat), TL.joinL [] (cs.map fun c => [c]) = cs
  | [] => rfl
  | [c] => rfl
  | c :: d :: r => by
    have h := joinL_one (d :: r)
    show [c] ++ ([] ++ TL.joinL [] ((d :: r).map fun c => [c])) = _
    rw [h]
    rfl
theorem dJoin_one {cs : List Nat} (h : cs.length ≤ 1000) : dJoin "" (.lst (cs.map fun ch => .str ⟨#[ch]⟩)) = some ⟨false, .str (SX.S cs)⟩ := by
  have e1 : (cs.map fun ch => D.str ⟨#[ch]⟩) = ((cs.map fun c => [c]).map SX.S).map D.str := by
    rw [List.map_map, List.map_map]
    rfl
  have e2 : ((((cs.map fun c => [c]).map SX.S).map (·.length)).sum + ((cs.map fun c => [c]).map SX.S).length * ("" : Str).length) ≤ 16777216 := by
    rw [SX.lens, List.map_map, List.length_map, List.length_map]
    have z : ("" : Str).length = 0 := by decide +kernel
    have z2 : (cs.map ((fun x => x.length) ∘ fun c => [c])).sum = cs.length := by
      clear h e1
      induction cs with
      | nil => rfl
      | cons x l ih =>
        rw [List.map_cons, List.sum_cons, ih, List.length_cons]
        show 1 + l.length = _
        omega
    rw [z, z2]
    omega
  show dJoinL "" _ = _
  unfold dJoinL
  rw [e1, txts_lS]
  show (if _ then cv (.str (Txt.join "" ((cs.map fun c => [c]).map SX.S))) else none) = _
  rw [if_pos e2]
  have e3 : ("" : Str) = SX.S [] := by decide +kernel
  rw [e3, SX.join_S, joinL_one]
  rfl
abbrev st8 (s0 s1 s2 s3 s4 s5 s6 s7 : Option Cell) (cnt : Nat) : Sta := ⟨[s0, s1, s2, s3, s4, s5, s6, s7], cnt, [true, false]⟩
/-- ''.join([pool[..] for spot in range(width)]) -/
theorem ink {a b c w : Int} {p : Str} {x1 x4 x5 x6 : Option Cell} {cnt : Nat} (t : Tk b (c + 10)) (c0 : 0 ≤ c) (hp : Pool p) (w0 : 0 ≤ w) (w1 : w ≤ 8) :
    ∃ a' c' x, mM1 dJoin (st "") (mLC (mRange1 (one1 (mSlot 2))) (setSl 7) (M.ret true) (m2 (mSlot 3) (cNext (mSlot 0) (mCallB (one1 (mSlot 3)) (one dLen))) (pure2 dIx)) [7]) (st8 (some (tp a b c)) x1 (some ⟨false, .int w⟩) (some ⟨false, .str p⟩) x4 x5 x6 none cnt) =
        .ok (.v ⟨false, .str x⟩) (st8 (some (tp a' b c')) x1 (some ⟨false, .int w⟩) (some ⟨false, .str p⟩) x4 x5 x6 none cnt) ∧ Wd w.toNat x ∧ c ≤ c' ∧ c' ≤ c + w := by
  have hl := hp.few
  have h0 := hp.some
  have len_ds : ((List.range w.toNat).map fun (k : Nat) => D.int (0 + k)).length = w.toNat := by rw [List.length_map, List.length_range]
  obtain ⟨acc', S', e, ⟨a', c', cs, rfl, e2, lw, k1, k2⟩, el⟩ := lc_all (am := setSl 7) (t := M.ret true) (me := m2 (mSlot 3) (cNext (mSlot 0) (mCallB (one1 (mSlot 3)) (one dLen))) (pure2 dIx)) (vs := [7])
    (I := fun acc S => ∃ a' c' cs, S = st8 (some (tp a' b c')) x1 (some ⟨false, .int w⟩) (some ⟨false, .str p⟩) x4 x5 x6 none cnt ∧ acc = cs.map (fun ch => D.str ⟨#[ch]⟩) ∧ (∀ ch ∈ cs, Low ch) ∧ c ≤ c' ∧ c' ≤ c + acc.length)
    (N := w.toNat) (by rw [sizeLine_eq]; omega) (ds := (List.range w.toNat).map fun (k : Nat) => D.int (0 + k))
    (by
      intro d hd acc S hn ⟨a', c', cs, hS, ha, hlow, k1, k2⟩
      subst hS
      obtain ⟨r, a2, c2, e, r0, r1, d1, d2⟩ := call_next (S := st8 (some (tp a' b c')) x1 (some ⟨false, .int w⟩) (some ⟨false, .str p⟩) x4 x5 x6 (some ⟨false, d⟩) cnt) (i := 0) (m := p.length) (mb := mCallB (one1 (mSlot 3)) (one dLen))
        rfl (v_blt (v_cons (v_slot rfl) v_nil) rfl (dLen_str (Nat.le_trans hp.few size26))) rfl rfl ⟨t.b0, t.b1, by omega, by have := t.c1; omega⟩ (by omega) (by omega)
      obtain ⟨ch, e3, low⟩ := str_at hp r0 r1
      refine ⟨_, _, _, _, _, rfl, rfl, v_op (v_slot rfl) e rfl rfl e3, rfl, a2, c2, cs ++ [ch], rfl, by rw [ha, List.map_append]; rfl, fun z hz => ?_, by omega, by rw [List.length_append, List.length_cons, List.length_nil]; omega⟩
      rcases List.mem_append.mp hz with hz | hz
      · exact hlow z hz
      · exact List.mem_singleton.mp hz ▸ low) [] (st8 (some (tp a b c)) x1 (some ⟨false, .int w⟩) (some ⟨false, .str p⟩) x4 x5 x6 none cnt) ⟨a, c, [], rfl, rfl, (fun _ h => nomatch h), Int.le_refl _, by simp⟩ (by rw [len_ds]; simp)
  rw [len_ds] at el
  have hcs : cs.length = w.toNat := by
    rw [e2, List.length_map] at el
    simpa using el
  subst e2
  have rk : rngOk w = true := decide_eq_true ⟨by omega, by omega⟩
  have e4 : mRange1 (one1 (mSlot 2)) (st8 (some (tp a b c)) x1 (some ⟨false, .int w⟩) (some ⟨false, .str p⟩) x4 x5 x6 none cnt) = .ok ((List.range w.toNat).map fun (k : Nat) => D.int (0 + k)) (st8 (some (tp a b c)) x1 (some ⟨false, .int w⟩) (some ⟨false, .str p⟩) x4 x5 x6 none cnt) :=
    v_range1 (v_cons (v_slot rfl) v_nil) rfl rk
  have e5 := v_lc e4 rfl e
  refine ⟨a', c', SX.S cs, v_m1 v_val rfl e5 rfl (dJoin_one (by omega)), ⟨by rw [SX.S_len, hcs], fun z hz => lw z (by simpa using hz)⟩, k1, ?_⟩
  rw [List.length_map, hcs] at k2
  omega
end Ov.K02


set_option Elab.async false
set_option linter.all false
set_option maxRecDepth 100000
set_option maxHeartbeats 4000000
namespace Ov.K02
open PySem PySem.Spec PyProof.Rows L2 Ov
/-- words as a Stamps takes them -/
structure Good (w : Nat) (ws : List Str) : Prop where
  w0 : 1 ≤ w
  w1 : w ≤ 8
  ne : ws ≠ []
  six : ws.length ≤ 6
  most : w * ws.length ≤ 36
  one : ws.Nodup
  all : ∀ x ∈ ws, Wd w x
theorem lS_snoc {ws : List Str} {x : Str} : lS (ws ++ [x]) = .lst (ws.map .str ++ [.str x]) := by
  unfold lS
  rw [List.map_append]
  rfl
def mInk1 : M Opn := mM1 dJoin (st "") (mLC (mRange1 (one1 (mSlot 2))) (setSl 7) (M.ret true) (m2 (mSlot 3) (cNext (mSlot 0) (mCallB (one1 (mSlot 3)) (one dLen))) (pure2 dIx)) [7])
def mInkT : SM := sSeq (sAsg mInk1 (setSl 6)) (sSeq (sIf (mTest (m2 (mSlot 6) (mSlot 4) (pure2 dNotIn))) (sSeq (sExpr (mMut "list" fAppend 4 (one1 (mSlot 6)))) sNext) sNext) sNext)
theorem ink_turn {a b c w : Int} {p : Str} {ws : List Str} {x1 x5 x6 : Option Cell} {cnt n : Nat} (t : Tk b (c + 10)) (c0 : 0 ≤ c) (hp : Pool p) (w0 : 0 ≤ w) (w1 : w ≤ 8) (hl : ws.length ≤ n) (hn : n ≤ 6) (nd : ws.Nodup) (hw : ∀ x ∈ ws, Wd w.toNat x) :
    ∃ a' c' ws' x6', mInkT (st8 (some (tp a b c)) x1 (some ⟨false, .int w⟩) (some ⟨false, .str p⟩) (some ⟨true, lS ws⟩) x5 x6 none cnt) = .nx (st8 (some (tp a' b c')) x1 (some ⟨false, .int w⟩) (some ⟨false, .str p⟩) (some ⟨true, lS ws'⟩) x5 x6' none cnt) ∧
      ws'.length ≤ n + 1 ∧ ws' ≠ [] ∧ ws'.Nodup ∧ (∀ x ∈ ws', Wd w.toNat x) ∧ c ≤ c' ∧ c' ≤ c + w := by
  obtain ⟨a', c', x, e, hx, d1, d2⟩ := ink (a := a) (x1 := x1) (x4 := some ⟨true, lS ws⟩) (x5 := x5) (x6 := x6) (cnt := cnt) t c0 hp w0 w1
  have tx := fun y hy => (hw y hy).tx
  have q := dNotIn_lS hx.tx tx
  have ea : sAsg mInk1 (setSl 6) (st8 (some (tp a b c)) x1 (some ⟨false, .int w⟩) (some ⟨false, .str p⟩) (some ⟨true, lS ws⟩) x5 x6 none cnt) = .nx (st8 (some (tp a' b c')) x1 (some ⟨false, .int w⟩) (some ⟨false, .str p⟩) (some ⟨true, lS ws⟩) x5 (some ⟨false, .str x⟩) none cnt) := v_asg e rfl rfl
  by_cases hm : x ∈ ws
  · exact ⟨a', c', ws, _, v_seq ea (v_seq (v_ifF (v_test (v_op (v_slot rfl) (v_slot rfl) rfl rfl q) rfl) (by rw [decide_eq_true hm]; rfl) v_next) v_next), by omega, List.ne_nil_of_mem hm, nd, hw, d1, d2⟩
  · refine ⟨a', c', ws ++ [x], some ⟨false, .str x⟩, ?_, by rw [List.length_append, List.length_cons, List.length_nil]; omega, by simp, ?_, fun y hy => ?_, d1, d2⟩
    · rw [lS_snoc]
      have sz : 6 < sizeLine := by rw [sizeLine_eq]; decide
      exact v_seq ea (v_seq (v_ifT (v_test (v_op (v_slot rfl) (v_slot rfl) rfl rfl q) rfl) (by rw [decide_eq_false hm]; rfl) (v_seq (v_expr (v_app rfl (v_cons (v_slot rfl) v_nil) rfl rfl (by rw [List.length_map]; omega))) v_next)) v_next)
    · rw [List.nodup_append]
      exact ⟨nd, by simp, fun y hy z hz => by rw [List.mem_singleton.mp hz]; exact fun e => hm (e ▸ hy)⟩
    · rcases List.mem_append.mp hy with hy | hy
      · exact hw y hy
      · exact List.mem_singleton.mp hy ▸ hx
theorem width_cap {w q : Int} (w0 : 1 ≤ w) (hq : q = if 36 / w < 6 then 36 / w else 6) (w1 : w ≤ 8) : 1 ≤ q ∧ q ≤ 6 ∧ q * w ≤ 36 := by
  have h1 : 36 / w * w ≤ 36 := Int.ediv_mul_le 36 (by omega)
  have h2 : (4 : Int) ≤ 36 / w := Int.le_ediv_of_mul_le (by omega) (by omega)
  split at hq
  · subst hq
    exact ⟨by omega, by omega, h1⟩
  · subst hq
    have h3 : 6 * w ≤ 36 / w * w := Int.mul_le_mul_of_nonneg_right (by omega) (by omega)
    exact ⟨by omega, by omega, by omega⟩
theorem inks {a b c most : Int} {cnt : Nat} (t : Tk b (c + 100)) (c0 : 0 ≤ c) (m0 : 0 < most) (m1 : most ≤ 8) :
    ∃ a' c' w ws, bodyF 2 6 mInks [tp a b c, ⟨false, .int most⟩] cnt = .ok ⟨false, lS ws⟩ [tp a' b c', ⟨false, .int most⟩] cnt ∧ Good w ws ∧ c ≤ c' ∧ c' ≤ c + 60 := by
  have t1 := t.c1
  obtain ⟨r1, a1, c1, e1, z1, z2, z3, z4⟩ := call_next (S := entry [tp a b c, ⟨false, .int most⟩] 6 cnt) (i := 0) (mb := mSlot 1) (m := most) rfl (v_slot rfl) rfl rfl ⟨t.b0, t.b1, c0, by omega⟩ m0 (by omega)
  obtain ⟨r2, a2, c2, e2, y1, y2, y3, y4⟩ := call_next (S := st8 (some (tp a1 b c1)) (some ⟨false, .int most⟩) (some ⟨false, .int (1 + r1)⟩) none none none none none cnt) (i := 0) (mb := n 4) (m := 4) rfl v_val rfl rfl ⟨t.b0, t.b1, by omega, by omega⟩ (by omega) (by omega)
  obtain ⟨p, ep, hp⟩ := pool_at y1 y2
  have hdiv : dFdiv (.int 36) (.int (1 + r1)) = some ⟨false, .int (36 / (1 + r1))⟩ := dFdiv_i (by omega) (Nat.lt_of_lt_of_le (log2_lt (k := 62) (by omega) (by omega) (by decide)) (by decide))
  obtain ⟨q0, q1, q2⟩ := width_cap (w := 1 + r1) (by omega) rfl (by omega)
  obtain ⟨r3, a3, c3, e3, x1, x2, x3, x4⟩ := call_next (S := st8 (some (tp a2 b c2)) (some ⟨false, .int most⟩) (some ⟨false, .int (1 + r1)⟩) (some ⟨false, .str p⟩) (some ⟨true, lS []⟩) none none none cnt) (i := 0)
    (mb := mCallB (two2 (n 6) (fd (n 36) (mSlot 2))) (two dMin)) (m := if 36 / (1 + r1) < 6 then 36 / (1 + r1) else 6) rfl (v_blt (v_cons v_val (v_cons (v_op v_val (v_slot rfl) rfl rfl hdiv) v_nil)) rfl rfl) rfl rfl ⟨t.b0, t.b1, by omega, by omega⟩ (by omega) (by omega)
  have lr : ((List.range (1 + r3).toNat).map fun (k : Nat) => D.int (0 + k)).length = (1 + r3).toNat := by rw [List.length_map, List.length_range]
  obtain ⟨S', el, a4, c4, ws, x5, x6, rfl, k1, k2, k3, k4, k5, k6⟩ := loop_all (am := setSl 5) (body := mInkT) (N := (1 + r3).toNat) (ds := (List.range (1 + r3).toNat).map fun (k : Nat) => D.int (0 + k)) (n := 0)
    (I := fun n S => ∃ a' c' ws x5 x6, S = st8 (some (tp a' b c')) (some ⟨false, .int most⟩) (some ⟨false, .int (1 + r1)⟩) (some ⟨false, .str p⟩) (some ⟨true, lS ws⟩) x5 x6 none cnt ∧ c3 ≤ c' ∧ c' ≤ c3 + 8 * n ∧ ws.length ≤ n ∧ (0 < n → ws ≠ []) ∧ ws.Nodup ∧ ∀ x ∈ ws, Wd (1 + r1).toNat x)
    (by
      intro d hd n S hn ⟨a', c', ws, x5, x6, hS, k1, k2, k3, k4, k5, k6⟩
      subst hS
      obtain ⟨a5, c5, ws', x6', e, l1, l2, l3, l4, l5, l6⟩ := ink_turn (a := a') (b := b) (c := c') (w := 1 + r1) (p := p) (ws := ws) (x1 := some ⟨false, .int most⟩) (x5 := some ⟨false, d⟩) (x6 := x6) (cnt := cnt) (n := n) ⟨t.b0, t.b1, by omega, by omega⟩ (by omega) hp (by omega) (by omega) k3 (by omega) k5 k6
      exact ⟨_, _, rfl, e, a5, c5, ws', _, x6', rfl, by omega, by omega, l1, fun _ => l2, l3, l4⟩)
    (st8 (some (tp a3 b c3)) (some ⟨false, .int most⟩) (some ⟨false, .int (1 + r1)⟩) (some ⟨false, .str p⟩) (some ⟨true, lS []⟩) none none none cnt) ⟨a3, c3, [], none, none, rfl, Int.le_refl _, by omega, Nat.le_refl _, (fun h => absurd h (Nat.lt_irrefl _)), List.nodup_nil, fun _ h => nomatch h⟩ (by rw [lr]; omega)
  rw [lr] at k2 k3 k4
  have rk : rngOk (1 + r3) = true := decide_eq_true ⟨by omega, by omega⟩
  have sz : 6 < sizeLine := by rw [sizeLine_eq]; decide
  refine ⟨a4, c4, (1 + r1).toNat, ws, v_body rfl
    (v_seq (v_asg (v_op v_val e1 rfl rfl dAdd_i) rfl rfl)
    (v_seq (v_asg (v_op (v_lst (v_cons v_val (v_cons v_val (v_cons v_val (v_cons v_val v_nil)))) rfl (by show 4 ≤ sizeLine; omega)) e2 rfl rfl ep) rfl rfl)
    (v_seq (v_asg (v_lst v_nil rfl (Nat.zero_le _)) rfl rfl)
    (v_seq (v_for (v_range1 (v_cons (v_op v_val e3 rfl rfl dAdd_i) v_nil) rfl rk) el)
    (v_seqR (v_ret (v_slot rfl) rfl)))))) rfl rfl, ⟨by omega, by omega, k4 (by omega), by omega, ?_, k5, k6⟩, by omega, by omega⟩
  have h1 : (ws.length : Int) ≤ (if 36 / (1 + r1) < 6 then 36 / (1 + r1) else 6) := by omega
  have h2 : (ws.length : Int) * (1 + r1) ≤ 36 := Int.le_trans (Int.mul_le_mul_of_nonneg_right h1 (by omega)) q2
  have h3 : (((1 + r1).toNat * ws.length : Nat) : Int) = (ws.length : Int) * (1 + r1) := by
    rw [Int.natCast_mul, Int.toNat_of_nonneg (by omega), Int.mul_comm]
  omega
end Ov.K02


set_option Elab.async false
set_option linter.all false
set_option maxRecDepth 100000
set_option maxHeartbeats 4000000
namespace Ov.K02
open PySem PySem.Spec PyProof.Rows L2 Ov
theorem tape_ok {ns : List Int} {k : Int} {cnt : Nat} (k0 : 0 ≤ k) (k1 : k < 4) : ∃ a b, bodyF 2 1 mTape [⟨false, .scr ns⟩, ⟨false, .int k⟩] cnt = .ok ⟨true, T a b 0⟩ [⟨false, .scr ns⟩, ⟨false, .int k⟩] cnt ∧ 0 ≤ b ∧ b < 2 ^ 140 := by
  have pick : ∃ cell : Int, mIf (mTest (m2 (mSlot 1) (mCallB (one1 (mSlot 0)) (one dLen)) (pure2 dLt))) (mCallB (one1 (m2 (mSlot 0) (mSlot 1) (pure2 dIx))) (one dAbs)) (n 0) (entry [⟨false, .scr ns⟩, ⟨false, .int k⟩] 1 cnt) = .ok (.v ⟨false, .int cell⟩) (entry [⟨false, .scr ns⟩, ⟨false, .int k⟩] 1 cnt) := by
    by_cases hk : k < (ns.length : Int)
    · have hi : k.toNat < ns.length := by omega
      have e : dIx (.scr ns) (.int k) = some ⟨false, .int ns[k.toNat]⟩ := by
        have e2 : atI ns k = some ns[k.toNat] := by
          unfold atI ixN
          rw [if_pos k0, if_pos hk]
          simp [hi]
        show (atI ns k).map _ = _
        rw [e2]
        rfl
      exact ⟨_, v_mifT (v_test (v_op (v_slot rfl) (v_blt (v_cons (v_slot rfl) v_nil) rfl rfl) rfl rfl dLt_i) rfl) (decide_eq_true hk) (v_blt (v_cons (v_op (v_slot rfl) (v_slot rfl) rfl rfl e) v_nil) rfl rfl)⟩
    · exact ⟨0, v_mifF (v_test (v_op (v_slot rfl) (v_blt (v_cons (v_slot rfl) v_nil) rfl rfl) rfl rfl dLt_i) rfl) (decide_eq_false hk) v_val⟩
  obtain ⟨cell, ec⟩ := pick
  have m0 : (0 : Int) < 10 ^ (37 : Int).toNat + 43 := by decide
  have mu : (10 : Int) ^ (37 : Int).toNat + 43 < 2 ^ 130 := by decide
  have x0 := Int.emod_nonneg cell (Int.ne_of_gt m0)
  have x1 := Int.emod_lt_of_pos cell m0
  have hm : (cell % (10 ^ (37 : Int).toNat + 43)).natAbs.log2 + (83 : Int).natAbs.log2 < 1000000 := by
    have h1 : (cell % (10 ^ (37 : Int).toNat + 43)).natAbs.log2 < 130 := log2_lt x0 (by omega) (by decide)
    have h2 : (83 : Int).natAbs.log2 < 10 := by decide
    omega
  have sz : 6 < sizeLine := by rw [sizeLine_eq]; decide
  refine ⟨_, _, v_body rfl
    (v_seq (v_asg ec rfl rfl)
    (v_seqR (v_ret (v_lst (v_cons (v_blt (v_cons v_val (v_cons (v_op (v_slot rfl) (v_op v_val v_val rfl rfl (dPow_i (by decide) (by decide))) rfl rfl dSub_i) v_nil)) rfl rfl)
      (v_cons (v_op (v_op (v_op (v_slot rfl) (v_op (v_op v_val v_val rfl rfl (dPow_i (by decide) (by decide))) v_val rfl rfl dAdd_i) rfl rfl (dMod_i m0)) v_val rfl rfl (dMul_i hm)) (v_slot rfl) rfl rfl dAdd_i)
      (v_cons v_val v_nil))) rfl (by show 3 ≤ sizeLine; omega)) rfl))) rfl rfl, by omega, by omega⟩
/-! ### is_row, are_words -/
theorem low_in : ∀ c : Nat, Low c → c ∈ ltr.cps.toList := by
  intro c h
  have e : ltr.cps.toList = [97, 98, 99, 100, 101, 102, 103, 104, 105, 106, 107, 108, 109, 110, 111, 112, 113, 114, 115, 116, 117, 118, 119, 120, 121, 122] := by decide +kernel
  rw [e]
  obtain ⟨h1, h2⟩ := h
  simp only [List.mem_cons, List.mem_nil_iff, or_false]
  omega
theorem bools_true : ∀ ds : List D, bools (ds.filterMap fun _ => some (.bl true)) = some (List.replicate ds.length true)
  | [] => rfl
  | d :: ds => by
    show (bools (ds.filterMap fun _ => some (.bl true))).map _ = _
    rw [bools_true ds]
    rfl
theorem all_true : ∀ k : Nat, (List.replicate k true).all id = true
  | 0 => rfl
  | k + 1 => by rw [List.replicate_succ, List.all_cons, all_true k]; rfl
theorem dAll_true (ds : List D) : one dAll [.lst (ds.filterMap fun _ => some (.bl true))] = some ⟨false, .bl true⟩ := by
  show (bools (ds.filterMap fun _ => some (.bl true))).map _ = _
  rw [bools_true]
  exact congrArg (fun z => some (Cell.mk false (D.bl z))) (all_true _)
theorem row_ok {w : Nat} {x : Str} {cnt : Nat} (h : Wd w x) (w0 : 1 ≤ w) (w1 : w ≤ 8) : bodyF 3 1 mRow [⟨false, .str x⟩, ⟨false, .str ltr⟩, ⟨false, .int 8⟩] cnt = .ok ⟨false, .bl true⟩ [⟨false, .str x⟩, ⟨false, .str ltr⟩, ⟨false, .int 8⟩] cnt := by
  have hl := h.len
  have sz : 100 < sizeLine := by rw [sizeLine_eq]; decide
  have e1 : one dLen [.str x] = some ⟨false, .int x.length⟩ := dLen_str (by omega)
  have el := lc_flat (am := setSl 3) (t := M.ret true) (me := m2 (mSlot 3) (mSlot 1) (pure2 dIn)) (vs := [3]) (S := ⟨[some ⟨false, .str x⟩, some ⟨false, .str ltr⟩, some ⟨false, .int 8⟩, none], cnt, [false, false, false]⟩) (g := fun _ => some (.bl true))
    (ds := x.cps.toList.map fun c => D.str ⟨#[c]⟩) (acc := [])
    (fun d hd => by
      obtain ⟨ch, hc, rfl⟩ := List.mem_map.mp hd
      have q : dIn (.str ⟨#[ch]⟩) (.str ltr) = some ⟨false, .bl true⟩ := by
        show some (Cell.mk false (D.bl (decide (ch ∈ ltr.cps.toList)))) = _
        rw [decide_eq_true (low_in ch (h.low ch hc))]
      exact ⟨_, _, _, _, rfl, rfl, v_op (v_slot rfl) (v_slot rfl) rfl rfl q, rfl, rfl⟩)
    (by rw [List.length_map]; have z : x.cps.toList.length = x.length := by simp [Str.length]
        show 0 + _ ≤ _; omega)
  have e2 := v_lc (v_src (ma := mSlot 0) (S := ⟨[some ⟨false, .str x⟩, some ⟨false, .str ltr⟩, some ⟨false, .int 8⟩, none], cnt, [false, false, false]⟩) (v_slot rfl) rfl rfl) rfl el
  refine v_body rfl (v_seqR (v_ret (v_andT (v_blt (v_cons (v_slot rfl) (v_cons v_val v_nil)) rfl rfl) rfl rfl
    (v_andT (v_chainT v_val (v_blt (v_cons (v_slot rfl) v_nil) rfl e1) rfl rfl dLe_i (decide_eq_true (by omega)) (v_slot rfl) rfl rfl dLe_i) rfl (decide_eq_true (by omega))
      (v_blt (v_cons e2 v_nil) rfl (dAll_true _)))) rfl)) rfl rfl
end Ov.K02


set_option Elab.async false
set_option linter.all false
set_option maxRecDepth 100000
set_option maxHeartbeats 4000000
namespace Ov.K02
open PySem PySem.Spec PyProof.Rows L2 Ov
theorem body1 {o o' : Bool} {d : D} {k cnt cnt' : Nat} {m : SM} {c : Cell} {r : List (Option Cell)} {pin : List Bool} (h : m (entry [⟨o, d⟩] k cnt) = .rt c ⟨some ⟨o', d⟩ :: r, cnt', pin⟩) : ∃ o2, bodyF 1 k m [⟨o, d⟩] cnt = .ok c [⟨o2, d⟩] cnt' := by
  cases o
  · exact ⟨false, v_body rfl h rfl rfl⟩
  · exact ⟨o', v_body rfl h rfl rfl⟩
theorem dLen_lS {ws : List Str} : one dLen [lS ws] = some ⟨false, .int ws.length⟩ := by
  show some (Cell.mk false (D.int ((ws.map D.str).length : Nat))) = _
  rw [List.length_map]
theorem dIx0 {x : Str} {r : List Str} : dIx (lS (x :: r)) (.int 0) = some ⟨false, .str x⟩ := by
  show (atI ((x :: r).map D.str) 0).map _ = _
  have e : atI ((x :: r).map D.str) 0 = some (.str x) := by
    unfold atI ixN
    rw [if_pos (Int.le_refl 0), if_pos (by rw [List.length_map, List.length_cons]; omega)]
    rfl
  rw [e]
  rfl
/-- words of 1 to 8 small letters, all different -/
structure Wds (ws : List Str) : Prop where
  ne : ws ≠ []
  one : ws.Nodup
  few : ws.length ≤ 20
  all : ∀ x ∈ ws, ∃ w, 1 ≤ w ∧ w ≤ 8 ∧ Wd w x
def fst (ws : List Str) : Str := ws.headD Str.empty
def same (ws : List Str) : Bool := ws.all fun x => decide ((x.length : Int) = (fst ws).length)
def fits (ws : List Str) : Bool := decide ((ws.length : Int) ≤ 6) && same ws && !decide ((36 : Int) < (fst ws).length * ws.length)
theorem Wds.fst {ws : List Str} (h : Wds ws) : ∃ r, ws = K02.fst ws :: r := by
  cases ws with
  | nil => exact absurd rfl h.ne
  | cons x r => exact ⟨r, rfl⟩
theorem Wds.len {ws : List Str} (h : Wds ws) {x : Str} (hx : x ∈ ws) : 1 ≤ x.length ∧ x.length ≤ 8 := by
  obtain ⟨w, w0, w1, hw⟩ := h.all x hx
  have := hw.len
  omega
theorem Wds.tx {ws : List Str} (h : Wds ws) {x : Str} (hx : x ∈ ws) : Tx x := by
  obtain ⟨w, w0, w1, hw⟩ := h.all x hx
  exact hw.tx
theorem bools_same {a : Str} : ∀ {ws : List Str}, bools ((ws.map D.str).filterMap fun d => match d with | .str x => some (.bl (decide ((x.length : Int) = a.length))) | _ => none) = some (ws.map fun x => decide ((x.length : Int) = a.length))
  | [] => rfl
  | x :: ws => by
    show (bools ((ws.map D.str).filterMap fun d => match d with | .str x => some (.bl (decide ((x.length : Int) = a.length))) | _ => none)).map _ = _
    rw [bools_same]
    rfl
theorem size100 : 100 < sizeLine := by rw [sizeLine_eq]; decide
theorem words_ok {ws : List Str} {o : Bool} {cnt : Nat} (h : Wds ws) : ∃ o', bodyF 1 2 mWords [⟨o, lS ws⟩] cnt = .ok ⟨false, .bl (fits ws)⟩ [⟨o', lS ws⟩] cnt := by
  have sz := size100
  have few := h.few
  have e1 : ∀ {o : Bool} {s1 s2 : Option Cell}, mTru (isT (mSlot 0) "list") (⟨[some ⟨o, lS ws⟩, s1, s2], cnt, [o]⟩ : Sta) = .ok true ⟨[some ⟨o, lS ws⟩, s1, s2], cnt, [o]⟩ := v_tru (v_blt (v_cons (v_slot rfl) (v_cons v_val v_nil)) rfl rfl) rfl rfl
  have n0 : 1 ≤ ws.length := List.length_pos_iff.mpr h.ne
  have e2 : mChain (n 1) (ln (mSlot 0)) (n 6) dLe dLe (⟨[some ⟨o, lS ws⟩, none, none], cnt, [o]⟩ : Sta) = .ok (.v ⟨false, .bl (decide ((ws.length : Int) ≤ 6))⟩) ⟨[some ⟨o, lS ws⟩, none, none], cnt, [o]⟩ :=
    v_chainT v_val (v_blt (v_cons (v_slot rfl) v_nil) rfl dLen_lS) rfl rfl dLe_i (decide_eq_true (by omega)) v_val rfl rfl dLe_i
  have t1 : bOr (bNot (mTru (isT (mSlot 0) "list"))) (bNot (mTest (mChain (n 1) (ln (mSlot 0)) (n 6) dLe dLe))) (entry [⟨o, lS ws⟩] 2 cnt) = .ok (!decide ((ws.length : Int) ≤ 6)) ⟨[some ⟨o, lS ws⟩, none, none], cnt, [o]⟩ :=
    v_orF (v_not e1) rfl (v_not (v_test e2 rfl))
  by_cases six : (ws.length : Int) ≤ 6
  · have el := lc_flat (am := setSl 2) (t := M.ret true) (me := cRow (mSlot 2) (mVal (.str ltr)) (n 8)) (vs := [2]) (S := ⟨[some ⟨false, lS ws⟩, none, none], cnt, [o]⟩) (g := fun _ => some (.bl true)) (ds := ws.map D.str) (acc := [])
      (fun d hd => by
        obtain ⟨x, hx, rfl⟩ := List.mem_map.mp hd
        obtain ⟨w, w0, w1, hw⟩ := h.all x hx
        exact ⟨_, _, _, _, rfl, rfl, v_bind (v_cons (v_slot rfl) (v_cons v_val (v_cons v_val v_nil))) (v_call rfl rfl (row_ok hw w0 w1)), rfl, rfl⟩)
      (by rw [List.length_map]; show 0 + _ ≤ _; omega)
    have e3 := v_lc (v_src (ma := mSlot 0) (S := ⟨[some ⟨o, lS ws⟩, none, none], cnt, [o]⟩) (v_slot rfl) rfl rfl) rfl el
    have t2 : bNot (mTru (mCallB (one1 (mLC (mSrc (mSlot 0)) (setSl 2) (M.ret true) (cRow (mSlot 2) (mVal (.str ltr)) (n 8)) [2])) (one dAll))) (⟨[some ⟨o, lS ws⟩, none, none], cnt, [o]⟩ : Sta) = .ok false ⟨[some ⟨false, lS ws⟩, none, none], cnt, [o]⟩ :=
      v_not (v_tru (v_blt (v_cons e3 v_nil) rfl (dAll_true _)) rfl rfl)
    obtain ⟨r, hr⟩ := h.fst
    have hl := h.len (x := K02.fst ws) (by rw [hr]; exact List.mem_cons_self ..)
    have i0 : dIx (lS ws) (.int 0) = some ⟨false, .str (K02.fst ws)⟩ := by rw [hr]; exact dIx0
    have e4 : ln (first0 (mSlot 0)) (⟨[some ⟨false, lS ws⟩, none, none], cnt, [o]⟩ : Sta) = .ok (.v ⟨false, .int (K02.fst ws).length⟩) ⟨[some ⟨false, lS ws⟩, none, none], cnt, [o]⟩ :=
      v_blt (v_cons (v_op (v_slot rfl) v_val rfl rfl i0) v_nil) rfl (dLen_str (by omega))
    have em := lc_flat (am := setSl 2) (t := M.ret true) (me := m2 (ln (mSlot 2)) (mSlot 1) (pure2 dEqP)) (vs := [2]) (S := ⟨[some ⟨false, lS ws⟩, some ⟨false, .int (K02.fst ws).length⟩, none], cnt, [o]⟩)
      (g := fun d => match d with | .str x => some (.bl (decide ((x.length : Int) = (K02.fst ws).length))) | _ => none) (ds := ws.map D.str) (acc := [])
      (fun d hd => by
        obtain ⟨x, hx, rfl⟩ := List.mem_map.mp hd
        have l := h.len hx
        exact ⟨_, _, _, _, rfl, rfl, v_op (v_blt (v_cons (v_slot rfl) v_nil) rfl (dLen_str (by omega))) (v_slot rfl) rfl rfl dEq_int, rfl, rfl⟩)
      (by rw [List.length_map]; show 0 + _ ≤ _; omega)
    have e5 := v_lc (v_src (ma := mSlot 0) (S := ⟨[some ⟨false, lS ws⟩, some ⟨false, .int (K02.fst ws).length⟩, none], cnt, [o]⟩) (v_slot rfl) rfl rfl) rfl em
    have ea : one dAll [.lst ([] ++ (ws.map D.str).filterMap fun d => match d with | .str x => some (.bl (decide ((x.length : Int) = (K02.fst ws).length))) | _ => none)] = some ⟨false, .bl (same ws)⟩ := by
      show (bools ((ws.map D.str).filterMap fun d => match d with | .str x => some (.bl (decide ((x.length : Int) = (K02.fst ws).length))) | _ => none)).map _ = _
      rw [bools_same]
      have z : (ws.map fun x => decide ((x.length : Int) = (K02.fst ws).length)).all id = same ws := by
        unfold same
        rw [List.all_map]
        rfl
      exact congrArg (fun z => some (Cell.mk false (D.bl z))) z
    have t3 : bNot (mTru (mCallB (one1 (mLC (mSrc (mSlot 0)) (setSl 2) (M.ret true) (m2 (ln (mSlot 2)) (mSlot 1) (pure2 dEqP)) [2])) (one dAll))) (⟨[some ⟨false, lS ws⟩, some ⟨false, .int (K02.fst ws).length⟩, none], cnt, [o]⟩ : Sta) = .ok (!same ws) ⟨[some ⟨false, lS ws⟩, some ⟨false, .int (K02.fst ws).length⟩, none], cnt, [o]⟩ :=
      v_not (v_tru (v_blt (v_cons e5 v_nil) rfl ea) rfl rfl)
    have lg : ((K02.fst ws).length : Int).natAbs.log2 + (ws.length : Int).natAbs.log2 < 1000000 := by
      have h1 : ((K02.fst ws).length : Int).natAbs.log2 < 10 := log2_lt (by omega) (by omega) (by decide)
      have h2 : (ws.length : Int).natAbs.log2 < 10 := log2_lt (by omega) (by omega) (by decide)
      omega
    have t4 : mTest (m2 (mul (mSlot 1) (ln (mSlot 0))) (n 36) (pure2 dGt)) (⟨[some ⟨false, lS ws⟩, some ⟨false, .int (K02.fst ws).length⟩, none], cnt, [o]⟩ : Sta) = .ok (decide ((36 : Int) < (K02.fst ws).length * ws.length)) ⟨[some ⟨false, lS ws⟩, some ⟨false, .int (K02.fst ws).length⟩, none], cnt, [o]⟩ :=
      v_test (v_op (v_op (v_slot rfl) (v_blt (v_cons (v_slot rfl) v_nil) rfl dLen_lS) rfl rfl (dMul_i lg)) v_val rfl rfl dGt_i) rfl
    have f6 : fits ws = (same ws && !decide ((36 : Int) < (K02.fst ws).length * ws.length)) := by
      unfold fits
      rw [decide_eq_true six]
      rfl
    refine body1 (o' := false) (r := [some ⟨false, .int (K02.fst ws).length⟩, none]) (pin := [o]) (v_seq (v_ifF t1 (by rw [decide_eq_true six]; rfl) v_next) (v_seq (v_ifF t2 rfl v_next) (v_seq (v_asg e4 rfl rfl) ?_)))
    by_cases sm : same ws = true
    · by_cases big : (36 : Int) < (K02.fst ws).length * ws.length
      · refine (v_seqR (v_ifT (v_orF t3 (by rw [sm]; rfl) t4) (decide_eq_true big) (v_seqR (v_ret v_val rfl)))).trans ?_
        rw [f6, decide_eq_true big, sm]
        rfl
      · have ls : dLenSet (lS ws) = some ⟨false, .int ws.length⟩ := dLenSet_lS h.one (by unfold scanBound; omega)
        refine (v_seq (v_ifF (v_orF t3 (by rw [sm]; rfl) t4) (decide_eq_false big) v_next) (v_seqR (v_ret (v_op (v_un (v_slot rfl) rfl ls) (v_blt (v_cons (v_slot rfl) v_nil) rfl dLen_lS) rfl rfl dEq_int) rfl))).trans ?_
        rw [f6, decide_eq_false big, sm, decide_eq_true rfl]
        rfl
    · have sm := Bool.eq_false_iff.mpr sm
      refine (v_seqR (v_ifT (v_orT t3 (by rw [sm]; rfl)) rfl (v_seqR (v_ret v_val rfl)))).trans ?_
      rw [f6, sm]
      rfl
  · refine body1 (o' := o) (r := [none, none]) (pin := [o]) ((v_seqR (v_ifT t1 (by rw [decide_eq_false six]; rfl) (v_seqR (v_ret v_val rfl)))).trans ?_)
    unfold fits
    rw [decide_eq_false six]
    rfl
end Ov.K02


set_option Elab.async false
set_option linter.all false
set_option maxRecDepth 100000
set_option maxHeartbeats 4000000
namespace Ov.K02
open PySem PySem.Spec PyProof.Rows L2 Ov
/-! ### calls with what stands at slots -/
section
variable {F : FM} {S : Sta} {i j k : Nat} {o o' : Bool} {d : D} {c c1 c2 : Cell} {x : Exn}
theorem set_same {l : List (Option Cell)} (h : l[i]? = some (some c)) : l.set i (some c) = l := by
  refine List.ext_getElem? fun n => ?_
  by_cases e : i = n
  · subst e
    have hi : i < l.length := by
      rcases Nat.lt_or_ge i l.length with z | z
      · exact z
      · rw [List.getElem?_eq_none z] at h
        cases h
    rw [List.getElem?_set_self hi, h]
  · rw [List.getElem?_set_ne e]
theorem v_callS (g : S.sl[i]? = some (some ⟨o, d⟩)) (hF : F [⟨o, d⟩] S.cnt = .ok c [⟨o', d⟩] k) : ∃ o2, callM F [.s i] S = .ok (.v c) { S with sl := S.sl.set i (some ⟨o2, d⟩), cnt := k } := by
  have m : [Opn.s i].mapM (curC S) = some [⟨o, d⟩] := by
    have z : curC S (.s i) = some ⟨o, d⟩ := by
      show S.sl[i]?.join = _
      rw [g]
      rfl
    simp [z]
  cases o
  · refine ⟨false, (v_call m rfl hF).trans ?_⟩
    rw [set_same g]
    rfl
  · exact ⟨o', (v_call m rfl hF).trans rfl⟩
theorem v_callS0 (g : S.sl[i]? = some (some c1)) (hF : F [c1] S.cnt = .ok c [c1] S.cnt) : callM F [.s i] S = .ok (.v c) S := by
  have m : [Opn.s i].mapM (curC S) = some [c1] := by
    have z : curC S (.s i) = some c1 := by
      show S.sl[i]?.join = _
      rw [g]
      rfl
    simp [z]
  obtain ⟨o, d⟩ := c1
  cases o
  · exact (v_call m rfl hF).trans rfl
  · refine (v_call m rfl hF).trans ?_
    show Res.ok _ { S with sl := S.sl.set i (some ⟨true, d⟩) } = _
    rw [set_same g]
theorem v_put2 (g : S.sl[i]? = some (some c1)) (h : S.sl[j]? = some (some c2)) : putFin S [.s i, .s j] [c1, c2] [c1, c2] = S := by
  obtain ⟨o1, d1⟩ := c1
  obtain ⟨o2, d2⟩ := c2
  cases o1 <;> cases o2
  · rfl
  · show { S with sl := S.sl.set j (some ⟨true, d2⟩) } = S
    rw [set_same h]
  · show { S with sl := S.sl.set i (some ⟨true, d1⟩) } = S
    rw [set_same g]
  · show { S with sl := (S.sl.set i (some ⟨true, d1⟩)).set j (some ⟨true, d2⟩) } = S
    rw [set_same g, set_same h]
theorem map2 (g : S.sl[i]? = some (some c1)) (h : S.sl[j]? = some (some c2)) : [Opn.s i, .s j].mapM (curC S) = some [c1, c2] := by
  have z1 : curC S (.s i) = some c1 := by
    show S.sl[i]?.join = _
    rw [g]
    rfl
  have z2 : curC S (.s j) = some c2 := by
    show S.sl[j]?.join = _
    rw [h]
    rfl
  simp [z1, z2]
theorem v_callS2 (g : S.sl[i]? = some (some c1)) (h : S.sl[j]? = some (some c2)) (hd : dist [.s i, .s j] [c1, c2] = true) (hF : F [c1, c2] S.cnt = .ok c [c1, c2] k) : callM F [.s i, .s j] S = .ok (.v c) { S with cnt := k } := by
  refine (v_call (map2 g h) hd hF).trans ?_
  rw [v_put2 g h]
theorem v_callS2X (g : S.sl[i]? = some (some c1)) (h : S.sl[j]? = some (some c2)) (hd : dist [.s i, .s j] [c1, c2] = true) (hF : F [c1, c2] S.cnt = .exc x [c1, c2] k) : callM F [.s i, .s j] S = .exc x { S with cnt := k } := by
  refine (v_callX (map2 g h) hd hF).trans ?_
  rw [v_put2 g h]
end
section
variable {S : Sta}
theorem map_v : ∀ {ds : List D}, (ds.map fun d => Opn.v ⟨false, d⟩).mapM (curC S) = some (ds.map fun d => ⟨false, d⟩)
  | [] => rfl
  | d :: ds => by
    have ih := map_v (ds := ds)
    have z : curC S (Opn.v ⟨false, d⟩) = some ⟨false, d⟩ := rfl
    rw [List.map_cons, List.mapM_cons, z, ih]
    rfl
theorem dist_v : ∀ {ds : List D} {cs : List Cell}, dist (ds.map fun d => Opn.v ⟨false, d⟩) cs = true
  | [], cs => by unfold dist; rfl
  | d :: ds, [] => by unfold dist; rfl
  | d :: ds, c :: cs => by
    rw [List.map_cons]
    unfold dist
    rw [dist_v]
    rfl
theorem put_v : ∀ {ds : List D} {cs fs : List Cell}, putFin S (ds.map fun d => Opn.v ⟨false, d⟩) cs fs = S
  | [], cs, fs => by unfold putFin; rfl
  | d :: ds, [], fs => by unfold putFin; rfl
  | d :: ds, c :: cs, [] => by unfold putFin; rfl
  | d :: ds, c :: cs, f :: fs => by
    rw [List.map_cons]
    unfold putFin
    exact put_v
end
theorem body1s {o : Bool} {d : D} {k cnt cnt' : Nat} {m : SM} {c : Cell} {r : List (Option Cell)} {pin : List Bool} (h : m (entry [⟨o, d⟩] k cnt) = .rt c ⟨some ⟨o, d⟩ :: r, cnt', pin⟩) : bodyF 1 k m [⟨o, d⟩] cnt = .ok c [⟨o, d⟩] cnt' := by
  cases o <;> exact v_body rfl h rfl rfl
/-! ### the class -/
abbrev stD (k : Nat) (ws : List Str) : D := .ins k "Stamps" [("held_words", lS ws)]
theorem inSC : ("Stamps" : Str) ∈ SC := List.mem_singleton.mpr rfl
theorem mem_low : ∀ {ws : List Str} {x : Str}, x ∈ ws → D.str x ∈ ws.map D.str := fun h => List.mem_map_of_mem h
theorem new_ok {ws : List Str} {cnt : Nat} (h : Wds ws) (hf : fits ws = true) : newF "Stamps" fInit (ws.map fun x => ⟨false, .str x⟩) cnt = .ok ⟨true, stD cnt ws⟩ (ws.map fun x => ⟨false, .str x⟩) (cnt + 1) := by
  have sz := size100
  have few := h.few
  obtain ⟨o', e⟩ := words_ok (o := true) (cnt := cnt + 1) h
  rw [hf] at e
  have ed : ((ws.map fun x => (⟨false, .str x⟩ : Cell)).map (·.d)) = ws.map D.str := by
    rw [List.map_map]
    rfl
  refine v_new (v_star ?_ (by rw [List.length_map]; omega) (fin := [⟨false, .tup (ws.map D.str)⟩]) ?_)
  · rw [List.all_map, List.all_eq_true]
    exact fun x _ => rfl
  rw [ed]
  have e1 : lst1 (mSlot 1) (entry [⟨true, .ins cnt "Stamps" []⟩, ⟨false, .tup (ws.map D.str)⟩] 0 (cnt + 1)) = .ok (.v ⟨true, lS ws⟩) (entry [⟨true, .ins cnt "Stamps" []⟩, ⟨false, .tup (ws.map D.str)⟩] 0 (cnt + 1)) := v_blt (v_cons (v_slot rfl) v_nil) rfl rfl
  exact v_bodyN rfl (v_seq (v_ifF (v_not (v_tru (v_bind (v_cons e1 v_nil) (v_call rfl rfl e)) rfl rfl)) rfl v_next) (v_seq (v_expr (v_setF (fs := []) e1 rfl rfl ⟨inSC, by decide⟩)) v_next)) rfl rfl
theorem of_ok {ws : List Str} {o : Bool} {cnt : Nat} (h : Wds ws) (hf : fits ws = true) : ∃ o2, fOf [⟨false, .cls "Stamps"⟩, ⟨o, lS ws⟩] cnt = .ok ⟨true, stD cnt ws⟩ [⟨false, .cls "Stamps"⟩, ⟨o2, lS ws⟩] (cnt + 1) := by
  obtain ⟨o', e⟩ := words_ok (o := o) (cnt := cnt) h
  rw [hf] at e
  obtain ⟨o2, e2⟩ := v_callS (S := entry [⟨false, .cls "Stamps"⟩, ⟨o, lS ws⟩] 0 cnt) (i := 1) rfl e
  have en : callM (newF "Stamps" fInit) ((ws.map D.str).map fun d => Opn.v ⟨false, d⟩) (⟨[some ⟨false, .cls "Stamps"⟩, some ⟨o2, lS ws⟩], cnt, [false, o]⟩ : Sta) = .ok (.v ⟨true, stD cnt ws⟩) ⟨[some ⟨false, .cls "Stamps"⟩, some ⟨o2, lS ws⟩], cnt + 1, [false, o]⟩ := by
    have z : ((ws.map D.str).map fun d => (⟨false, d⟩ : Cell)) = ws.map fun x => ⟨false, .str x⟩ := by
      rw [List.map_map]
      rfl
    refine (v_call map_v dist_v (by rw [z]; exact new_ok h hf)).trans ?_
    rw [put_v]
  have run : mOf (entry [⟨false, .cls "Stamps"⟩, ⟨o, lS ws⟩] 0 cnt) = .rt ⟨true, stD cnt ws⟩ ⟨[some ⟨false, .cls "Stamps"⟩, some ⟨o2, lS ws⟩], cnt + 1, [false, o]⟩ :=
    v_seq (v_ifF (v_not (v_tru (v_bind (v_cons (v_slot rfl) v_nil) e2) rfl rfl)) rfl v_next) (v_seqR (v_ret (v_spread (v_slot rfl) rfl en) rfl))
  cases o
  · exact ⟨false, v_body rfl run rfl rfl⟩
  · exact ⟨o2, v_body rfl run rfl rfl⟩
theorem of_no {ws : List Str} {o : Bool} {cnt : Nat} (h : Wds ws) (hf : fits ws = false) : ∃ o2, fOf [⟨false, .cls "Stamps"⟩, ⟨o, lS ws⟩] cnt = .exc ⟨"InvalidStamps", []⟩ [⟨false, .cls "Stamps"⟩, ⟨o2, lS ws⟩] cnt := by
  obtain ⟨o', e⟩ := words_ok (o := o) (cnt := cnt) h
  rw [hf] at e
  obtain ⟨o2, e2⟩ := v_callS (S := entry [⟨false, .cls "Stamps"⟩, ⟨o, lS ws⟩] 0 cnt) (i := 1) rfl e
  have run : mOf (entry [⟨false, .cls "Stamps"⟩, ⟨o, lS ws⟩] 0 cnt) = .exc ⟨"InvalidStamps", []⟩ ⟨[some ⟨false, .cls "Stamps"⟩, some ⟨o2, lS ws⟩], cnt, [false, o]⟩ :=
    v_seqX (v_ifT (v_not (v_tru (v_bind (v_cons (v_slot rfl) v_nil) e2) rfl rfl)) rfl (v_seqX v_raise))
  cases o
  · exact ⟨false, v_bodyX rfl run rfl rfl⟩
  · exact ⟨o2, v_bodyX rfl run rfl rfl⟩
theorem wds_ok {k cnt : Nat} {o : Bool} {ws : List Str} : bodyF 1 0 mWds [⟨o, stD k ws⟩] cnt = .ok ⟨true, lS ws⟩ [⟨o, stD k ws⟩] cnt :=
  body1s (v_seqR (v_ret (v_blt (v_cons (v_fld (v_slot rfl) rfl inSC rfl) v_nil) rfl rfl) rfl))
theorem wid_ok {k cnt : Nat} {o : Bool} {ws : List Str} (h : Wds ws) : bodyF 1 0 mWid [⟨o, stD k ws⟩] cnt = .ok ⟨false, .int (fst ws).length⟩ [⟨o, stD k ws⟩] cnt := by
  obtain ⟨r, hr⟩ := h.fst
  have sz := size100
  have hl := h.len (x := K02.fst ws) (by rw [hr]; exact List.mem_cons_self ..)
  have i0 : dIx (lS ws) (.int 0) = some ⟨false, .str (K02.fst ws)⟩ := by rw [hr]; exact dIx0
  exact body1s (v_seqR (v_ret (v_blt (v_cons (v_op (v_fld (v_slot rfl) rfl inSC rfl) v_val rfl rfl i0) v_nil) rfl (dLen_str (by omega))) rfl))
theorem len_ok {k cnt : Nat} {o : Bool} {ws : List Str} : bodyF 1 0 mLen [⟨o, stD k ws⟩] cnt = .ok ⟨false, .int ws.length⟩ [⟨o, stD k ws⟩] cnt :=
  body1s (v_seqR (v_ret (v_blt (v_cons (v_fld (v_slot rfl) rfl inSC rfl) v_nil) rfl dLen_lS) rfl))
end Ov.K02


set_option Elab.async false
set_option linter.all false
set_option maxRecDepth 100000
set_option maxHeartbeats 4000000
namespace Ov.K02
open PySem PySem.Spec PyProof.Rows L2 Ov
/-! ### sums -/
def more (ws vs : List Str) : List Str := vs.filter fun x => !decide (x ∈ ws)
def plusW (ws vs : List Str) : List Str := ws ++ more ws vs
theorem more_map {ws : List Str} : ∀ {vs : List Str}, ((vs.map D.str).filterMap fun d => match d with | .str x => (if x ∈ ws then none else some (D.str x)) | _ => none) = (more ws vs).map D.str
  | [] => rfl
  | x :: vs => by
    have ih := more_map (ws := ws) (vs := vs)
    unfold more at ih ⊢
    rw [List.map_cons, List.filter_cons]
    by_cases h : x ∈ ws
    · rw [List.filterMap_cons_none (by dsimp only; rw [if_pos h]), ih, decide_eq_true h]
      rfl
    · rw [List.filterMap_cons_some (b := D.str x) (by dsimp only; rw [if_neg h]), ih, decide_eq_false h]
      rfl
theorem more_len {ws vs : List Str} : (more ws vs).length ≤ vs.length := List.length_filter_le _ _
theorem dAdd_lS {ws vs : List Str} (h : ws.length + vs.length ≤ sizeLine) : dAdd (lS ws) (lS vs) = some ⟨true, lS (ws ++ vs)⟩ := by
  show (if (ws.map D.str).length + (vs.map D.str).length ≤ sizeLine then some (Cell.mk true (.lst (ws.map D.str ++ vs.map D.str))) else none) = _
  rw [List.length_map, List.length_map, if_pos h, ← List.map_append]
theorem plus_wds {ws vs : List Str} (h : Wds ws) (k : Wds vs) (hl : ws.length + vs.length ≤ 20) : Wds (plusW ws vs) := by
  have ml := more_len (ws := ws) (vs := vs)
  refine ⟨fun e => h.ne (List.append_eq_nil_iff.mp e).1, ?_, ?_, fun x hx => ?_⟩
  · refine List.nodup_append.mpr ⟨h.one, k.one.filter _, fun a ha b hb e => ?_⟩
    subst e
    have z := (List.mem_filter.mp hb).2
    rw [decide_eq_true ha] at z
    cases z
  · show (ws ++ more ws vs).length ≤ 20
    rw [List.length_append]
    omega
  · rcases List.mem_append.mp hx with hx | hx
    · exact h.all x hx
    · exact k.all x (List.mem_filter.mp hx).1
/-- [x for x in vs if x not in ws] -/
abbrev gMore (ws : List Str) : D → Option D := fun d => match d with | .str x => (if x ∈ ws then none else some (D.str x)) | _ => none
theorem more_ok {ws vs : List Str} {k1 k2 cnt : Nat} {o1 o2 : Bool} (h : Wds ws) (k : Wds vs) :
    sAsg (mLC (mSrc (hw (mSlot 1))) (setSl 3) (mTest (m2 (mSlot 3) (hw (mSlot 0)) (pure2 dNotIn))) (mSlot 3) [3]) (setSl 2) (entry [⟨o1, stD k1 ws⟩, ⟨o2, stD k2 vs⟩] 2 cnt) = .nx ⟨[some ⟨o1, stD k1 ws⟩, some ⟨o2, stD k2 vs⟩, some ⟨true, lS (more ws vs)⟩, none], cnt, [o1, o2]⟩ := by
  have sz := size100
  have tw := fun y (hy : y ∈ ws) => h.tx hy
  have el := lc_flat (am := setSl 3) (t := mTest (m2 (mSlot 3) (hw (mSlot 0)) (pure2 dNotIn))) (me := mSlot 3) (vs := [3]) (S := ⟨[some ⟨o1, stD k1 ws⟩, some ⟨o2, stD k2 vs⟩, none, none], cnt, [o1, o2]⟩)
    (g := gMore ws) (ds := vs.map D.str) (acc := [])
    (fun d hd => by
      obtain ⟨x, hx, rfl⟩ := List.mem_map.mp hd
      have q := dNotIn_lS (k.tx hx) tw
      dsimp only [gMore]
      by_cases hm : x ∈ ws
      · rw [if_pos hm]
        rw [decide_eq_true hm] at q
        exact ⟨_, _, rfl, v_test (v_op (v_slot rfl) (v_fld (v_slot rfl) rfl inSC rfl) rfl rfl q) rfl, rfl⟩
      · rw [if_neg hm]
        rw [decide_eq_false hm] at q
        exact ⟨_, _, _, _, rfl, v_test (v_op (v_slot rfl) (v_fld (v_slot rfl) rfl inSC rfl) rfl rfl q) rfl, v_slot rfl, rfl, rfl⟩)
    (by rw [List.length_map]; show 0 + _ ≤ _; have := k.few; omega)
  have e2 := v_lc (v_src (ma := hw (mSlot 1)) (S := ⟨[some ⟨o1, stD k1 ws⟩, some ⟨o2, stD k2 vs⟩, none, none], cnt, [o1, o2]⟩) (v_fld (v_slot rfl) rfl inSC rfl) rfl rfl) rfl el
  rw [List.nil_append, more_map] at e2
  exact v_asg e2 rfl rfl
theorem dAdd_more {ws vs : List Str} (h : Wds ws) (k : Wds vs) : dAdd (lS ws) (lS (more ws vs)) = some ⟨true, lS (plusW ws vs)⟩ := by
  have sz := size100
  have ml := more_len (ws := ws) (vs := vs)
  exact dAdd_lS (by have := k.few; have := h.few; omega)
theorem add_ok {ws vs : List Str} {k1 k2 cnt : Nat} {o1 o2 : Bool} (h : Wds ws) (k : Wds vs) (hl : ws.length + vs.length ≤ 20) (hf : fits (plusW ws vs) = true) :
    fAdd [⟨o1, stD k1 ws⟩, ⟨o2, stD k2 vs⟩] cnt = .ok ⟨true, stD cnt (plusW ws vs)⟩ [⟨o1, stD k1 ws⟩, ⟨o2, stD k2 vs⟩] (cnt + 1) := by
  obtain ⟨o3, e3⟩ := of_ok (o := true) (cnt := cnt) (plus_wds h k hl) hf
  have run : mAdd (entry [⟨o1, stD k1 ws⟩, ⟨o2, stD k2 vs⟩] 2 cnt) = .rt ⟨true, stD cnt (plusW ws vs)⟩ ⟨[some ⟨o1, stD k1 ws⟩, some ⟨o2, stD k2 vs⟩, some ⟨true, lS (more ws vs)⟩, none], cnt + 1, [o1, o2]⟩ :=
    v_seq (more_ok h k) (v_seqR (v_ret (v_bind (v_cons (v_op (v_fld (v_slot rfl) rfl inSC rfl) (v_slot rfl) rfl rfl (dAdd_more h k)) v_nil) (v_call rfl rfl e3)) rfl))
  cases o1 <;> cases o2 <;> exact v_body rfl run rfl rfl
theorem add_no {ws vs : List Str} {k1 k2 cnt : Nat} {o1 o2 : Bool} (h : Wds ws) (k : Wds vs) (hl : ws.length + vs.length ≤ 20) (hf : fits (plusW ws vs) = false) :
    fAdd [⟨o1, stD k1 ws⟩, ⟨o2, stD k2 vs⟩] cnt = .exc ⟨"InvalidStamps", []⟩ [⟨o1, stD k1 ws⟩, ⟨o2, stD k2 vs⟩] cnt := by
  obtain ⟨o3, e3⟩ := of_no (o := true) (cnt := cnt) (plus_wds h k hl) hf
  have run : mAdd (entry [⟨o1, stD k1 ws⟩, ⟨o2, stD k2 vs⟩] 2 cnt) = .exc ⟨"InvalidStamps", []⟩ ⟨[some ⟨o1, stD k1 ws⟩, some ⟨o2, stD k2 vs⟩, some ⟨true, lS (more ws vs)⟩, none], cnt, [o1, o2]⟩ :=
    v_seq (more_ok h k) (v_seqX (v_retX (v_bind (v_cons (v_op (v_fld (v_slot rfl) rfl inSC rfl) (v_slot rfl) rfl rfl (dAdd_more h k)) v_nil) ((v_callX rfl rfl e3).trans rfl))))
  cases o1 <;> cases o2 <;> exact v_bodyX rfl run rfl rfl
theorem cur_at {S : Sta} {i : Nat} {o : Bool} {d : D} (g : S.sl[i]? = some (some ⟨o, d⟩)) : curD S (.s i) = some d := by
  show (S.sl[i]?.join).map _ = _
  rw [g]
  rfl
/-! in use -/
section
variable {S S1 : Sta} {i j k1 k2 k : Nat} {o1 o2 : Bool} {ws vs : List Str} {m : M Opn}
theorem v_plus (g1 : S.sl[i]? = some (some ⟨o1, stD k1 ws⟩)) (g2 : S.sl[j]? = some (some ⟨o2, stD k2 vs⟩)) (hd : dist [.s i, .s j] [⟨o1, stD k1 ws⟩, ⟨o2, stD k2 vs⟩] = true) (h : Wds ws) (k : Wds vs) (hl : ws.length + vs.length ≤ 20) (hf : fits (plusW ws vs) = true) :
    plus (mSlot i) (mSlot j) S = .ok (.v ⟨true, stD S.cnt (plusW ws vs)⟩) { S with cnt := S.cnt + 1 } :=
  v_ownOp (n := k1) (n2 := k2) (fs := [("held_words", lS ws)]) (fs2 := [("held_words", lS vs)]) (v_slot g1) (v_slot g2) (cur_at g1) (cur_at g2) inSC (v_callS2 g1 g2 hd (add_ok h k hl hf))
theorem v_plusX (g1 : S.sl[i]? = some (some ⟨o1, stD k1 ws⟩)) (g2 : S.sl[j]? = some (some ⟨o2, stD k2 vs⟩)) (hd : dist [.s i, .s j] [⟨o1, stD k1 ws⟩, ⟨o2, stD k2 vs⟩] = true) (h : Wds ws) (k : Wds vs) (hl : ws.length + vs.length ≤ 20) (hf : fits (plusW ws vs) = false) :
    plus (mSlot i) (mSlot j) S = .exc ⟨"InvalidStamps", []⟩ S :=
  v_ownOp (n := k1) (n2 := k2) (fs := [("held_words", lS ws)]) (fs2 := [("held_words", lS vs)]) (v_slot g1) (v_slot g2) (cur_at g1) (cur_at g2) inSC (v_callS2X g1 g2 hd (add_no h k hl hf))
theorem v_wdsV (hm : m S = .ok (.v ⟨o1, stD k ws⟩) S1) : wds m S = .ok (.v ⟨true, lS ws⟩) S1 :=
  v_prop hm rfl inSC ((v_call (cs := [⟨o1, stD k ws⟩]) rfl rfl wds_ok).trans rfl)
theorem v_wdsS (g : S.sl[i]? = some (some ⟨o1, stD k ws⟩)) : wds (mSlot i) S = .ok (.v ⟨true, lS ws⟩) S :=
  v_prop (n := k) (fs := [("held_words", lS ws)]) (v_slot g) (cur_at g) inSC (v_callS0 g wds_ok)
theorem v_widS (g : S.sl[i]? = some (some ⟨o1, stD k ws⟩)) (h : Wds ws) : wid (mSlot i) S = .ok (.v ⟨false, .int (fst ws).length⟩) S :=
  v_prop (n := k) (fs := [("held_words", lS ws)]) (v_slot g) (cur_at g) inSC (v_callS0 g (wid_ok h))
theorem v_lenS (g : S.sl[i]? = some (some ⟨o1, stD k ws⟩)) (h : Wds ws) : lenS (mSlot i) S = .ok (.v ⟨false, .int ws.length⟩) S :=
  v_lenI (n := k) (fs := [("held_words", lS ws)]) (v_slot g) (cur_at g) inSC (v_callS0 g len_ok) ⟨by omega, by have := h.few; omega⟩
end
/-! _law_sum -/
def sumC (f : List Str) : Cell := if fits f = true then ⟨true, lS f⟩ else ⟨false, .non⟩
theorem sum_ok {ws vs : List Str} {k1 k2 cnt : Nat} {o1 o2 : Bool} (h : Wds ws) (k : Wds vs) (hl : ws.length + vs.length ≤ 20) :
    ∃ cnt', bodyF 2 0 mSum [⟨o1, stD k1 ws⟩, ⟨o2, stD k2 vs⟩] cnt = .ok (sumC (plusW ws vs)) [⟨o1, stD k1 ws⟩, ⟨o2, stD k2 vs⟩] cnt' ∧ cnt ≤ cnt' := by
  have hd : dist [.s 0, .s 1] [⟨o1, stD k1 ws⟩, ⟨o2, stD k2 vs⟩] = true := by cases o1 <;> cases o2 <;> rfl
  cases hf : fits (plusW ws vs) with
  | true =>
    have run : mSum (entry [⟨o1, stD k1 ws⟩, ⟨o2, stD k2 vs⟩] 0 cnt) = .rt ⟨true, lS (plusW ws vs)⟩ ⟨[some ⟨o1, stD k1 ws⟩, some ⟨o2, stD k2 vs⟩], cnt + 1, [o1, o2]⟩ :=
      v_seqR (v_try (v_seqR (v_ret (v_wdsV (v_plus (S := entry [⟨o1, stD k1 ws⟩, ⟨o2, stD k2 vs⟩] 0 cnt) (i := 0) (j := 1) rfl rfl hd h k hl hf)) rfl)))
    refine ⟨cnt + 1, ?_, Nat.le_succ _⟩
    unfold sumC
    rw [if_pos hf]
    cases o1 <;> cases o2 <;> exact v_body rfl run rfl rfl
  | false =>
    have ex := v_plusX (S := entry [⟨o1, stD k1 ws⟩, ⟨o2, stD k2 vs⟩] 0 cnt) (i := 0) (j := 1) rfl rfl hd h k hl hf
    have ex0 : wds (plus (mSlot 0) (mSlot 1)) (entry [⟨o1, stD k1 ws⟩, ⟨o2, stD k2 vs⟩] 0 cnt) = .exc ⟨"InvalidStamps", []⟩ (entry [⟨o1, stD k1 ws⟩, ⟨o2, stD k2 vs⟩] 0 cnt) := v_bindX ex
    have run : mSum (entry [⟨o1, stD k1 ws⟩, ⟨o2, stD k2 vs⟩] 0 cnt) = .rt ⟨false, .non⟩ ⟨[some ⟨o1, stD k1 ws⟩, some ⟨o2, stD k2 vs⟩], cnt, [o1, o2]⟩ :=
      v_seqR (v_tryX (v_seqX (v_retX ex0)) rfl (v_seqR (v_ret v_val rfl)))
    refine ⟨cnt, ?_, Nat.le_refl _⟩
    unfold sumC
    rw [if_neg (by rw [hf]; exact Bool.false_ne_true)]
    cases o1 <;> cases o2 <;> exact v_body rfl run rfl rfl
end Ov.K02


set_option Elab.async false
set_option linter.all false
set_option maxRecDepth 100000
set_option maxHeartbeats 4000000
namespace Ov.K02
open PySem PySem.Spec PyProof.Rows L2 Ov
/-! ### _law_due -/
def odd (f : List Str) : List Str := f.filter fun x => !decide ((x.length : Int) = (fst f).length)
abbrev gOdd (a : Str) : D → Option D := fun d => match d with | .str x => (if (x.length : Int) = a.length then none else some (D.str x)) | _ => none
theorem odd_map {a : Str} : ∀ {f : List Str}, (f.map D.str).filterMap (gOdd a) = (f.filter fun x => !decide ((x.length : Int) = a.length)).map D.str
  | [] => rfl
  | x :: f => by
    have ih := odd_map (a := a) (f := f)
    rw [List.map_cons, List.filter_cons]
    by_cases h : (x.length : Int) = a.length
    · rw [List.filterMap_cons_none (by dsimp only [gOdd]; rw [if_pos h]), ih, decide_eq_true h]
      rfl
    · rw [List.filterMap_cons_some (b := D.str x) (by dsimp only [gOdd]; rw [if_neg h]), ih, decide_eq_false h]
      rfl
theorem odd_nil {f : List Str} : decide (odd f = []) = same f := by
  unfold odd same
  rw [Bool.eq_iff_iff, decide_eq_true_eq, List.filter_eq_nil_iff, List.all_eq_true]
  exact ⟨fun h x hx => by have := h x hx; simpa using this, fun h x hx => by have := h x hx; simpa using this⟩
def dueD (f : List Str) : D := if fits f = true then lS f else .non
theorem due_ok {ws vs : List Str} {cnt : Nat} {o1 o2 : Bool} (h : Wds ws) (k : Wds vs) (hl : ws.length + vs.length ≤ 20) :
    ∃ o3, bodyF 2 2 mDue [⟨o1, lS ws⟩, ⟨o2, lS vs⟩] cnt = .ok ⟨false, dueD (plusW ws vs)⟩ [⟨o1, lS ws⟩, ⟨o3, lS vs⟩] cnt := by
  have sz := size100
  have tw := fun y (hy : y ∈ ws) => h.tx hy
  have el := lc_flat (am := setSl 3) (t := mTest (m2 (mSlot 3) (mSlot 0) (pure2 dNotIn))) (me := mSlot 3) (vs := [3]) (S := ⟨[some ⟨o1, lS ws⟩, some ⟨false, lS vs⟩, none, none], cnt, [o1, o2]⟩)
    (g := gMore ws) (ds := vs.map D.str) (acc := [])
    (fun d hd => by
      obtain ⟨x, hx, rfl⟩ := List.mem_map.mp hd
      have q := dNotIn_lS (k.tx hx) tw
      dsimp only [gMore]
      by_cases hm : x ∈ ws
      · rw [if_pos hm]
        rw [decide_eq_true hm] at q
        exact ⟨_, _, rfl, v_test (v_op (v_slot rfl) (v_slot rfl) rfl rfl q) rfl, rfl⟩
      · rw [if_neg hm]
        rw [decide_eq_false hm] at q
        exact ⟨_, _, _, _, rfl, v_test (v_op (v_slot rfl) (v_slot rfl) rfl rfl q) rfl, v_slot rfl, rfl, rfl⟩)
    (by rw [List.length_map]; show 0 + _ ≤ _; have := k.few; omega)
  have e2 := v_lc (v_src (ma := mSlot 1) (S := ⟨[some ⟨o1, lS ws⟩, some ⟨o2, lS vs⟩, none, none], cnt, [o1, o2]⟩) (v_slot rfl) rfl rfl) rfl el
  rw [List.nil_append, more_map] at e2
  have hp := plus_wds h k hl
  generalize hF : plusW ws vs = f at hp
  have ea : dAdd (lS ws) (lS (more ws vs)) = some ⟨true, lS f⟩ := by rw [← hF]; exact dAdd_more h k
  have a1 : sAsg (add (mSlot 0) (mLC (mSrc (mSlot 1)) (setSl 3) (mTest (m2 (mSlot 3) (mSlot 0) (pure2 dNotIn))) (mSlot 3) [3])) (setSl 2) (entry [⟨o1, lS ws⟩, ⟨o2, lS vs⟩] 2 cnt) = .nx ⟨[some ⟨o1, lS ws⟩, some ⟨false, lS vs⟩, some ⟨true, lS f⟩, none], cnt, [o1, o2]⟩ :=
    v_asg (v_op (v_slot rfl) e2 rfl rfl ea) rfl rfl
  have fin : ∀ {c : Cell} {o4 : Bool} {s3 : Option Cell}, mDue (entry [⟨o1, lS ws⟩, ⟨o2, lS vs⟩] 2 cnt) = .rt c ⟨[some ⟨o1, lS ws⟩, some ⟨false, lS vs⟩, some ⟨o4, lS f⟩, s3], cnt, [o1, o2]⟩ → ∃ o3, bodyF 2 2 mDue [⟨o1, lS ws⟩, ⟨o2, lS vs⟩] cnt = .ok c [⟨o1, lS ws⟩, ⟨o3, lS vs⟩] cnt := by
    intro c o4 s3 run
    refine ⟨false, ?_⟩
    cases o1 <;> cases o2 <;> exact v_body rfl run rfl rfl
  have fw := hp.few
  have e6 : mTest (m2 (ln (mSlot 2)) (n 6) (pure2 dGt)) (⟨[some ⟨o1, lS ws⟩, some ⟨false, lS vs⟩, some ⟨true, lS f⟩, none], cnt, [o1, o2]⟩ : Sta) = .ok (decide ((6 : Int) < f.length)) ⟨[some ⟨o1, lS ws⟩, some ⟨false, lS vs⟩, some ⟨true, lS f⟩, none], cnt, [o1, o2]⟩ :=
    v_test (v_op (v_blt (v_cons (v_slot rfl) v_nil) rfl dLen_lS) v_val rfl rfl dGt_i) rfl
  by_cases six : (6 : Int) < f.length
  · have z : dueD f = .non := by
      unfold dueD fits
      rw [decide_eq_false (by omega : ¬ (f.length : Int) ≤ 6)]
      rfl
    rw [z]
    exact fin (o4 := true) (s3 := none) (v_seq a1 (v_seqR (v_ifT (v_orT e6 (decide_eq_true six)) rfl (v_seqR (v_ret v_val rfl)))))
  · obtain ⟨r, hr⟩ := hp.fst
    have hl0 := hp.len (x := K02.fst f) (by rw [hr]; exact List.mem_cons_self ..)
    have i0 : dIx (lS f) (.int 0) = some ⟨false, .str (K02.fst f)⟩ := by rw [hr]; exact dIx0
    have em := lc_flat (am := setSl 3) (t := mTest (m2 (ln (mSlot 3)) (ln (first0 (mSlot 2))) (pure2 dNeP))) (me := mSlot 3) (vs := [3]) (S := ⟨[some ⟨o1, lS ws⟩, some ⟨false, lS vs⟩, some ⟨false, lS f⟩, none], cnt, [o1, o2]⟩)
      (g := gOdd (K02.fst f)) (ds := f.map D.str) (acc := [])
      (fun d hd => by
        obtain ⟨x, hx, rfl⟩ := List.mem_map.mp hd
        have l := hp.len hx
        have q := dNe_int (a := x.length) (b := (K02.fst f).length)
        dsimp only [gOdd]
        by_cases hm : (x.length : Int) = (K02.fst f).length
        · rw [if_pos hm]
          rw [decide_eq_true hm] at q
          exact ⟨_, _, rfl, v_test (v_op (v_blt (v_cons (v_slot rfl) v_nil) rfl (dLen_str (by omega))) (v_blt (v_cons (v_op (v_slot rfl) v_val rfl rfl i0) v_nil) rfl (dLen_str (by omega))) rfl rfl q) rfl, rfl⟩
        · rw [if_neg hm]
          rw [decide_eq_false hm] at q
          exact ⟨_, _, _, _, rfl, v_test (v_op (v_blt (v_cons (v_slot rfl) v_nil) rfl (dLen_str (by omega))) (v_blt (v_cons (v_op (v_slot rfl) v_val rfl rfl i0) v_nil) rfl (dLen_str (by omega))) rfl rfl q) rfl, v_slot rfl, rfl, rfl⟩)
      (by rw [List.length_map]; show 0 + _ ≤ _; omega)
    have e3 := v_lc (v_src (ma := mSlot 2) (S := ⟨[some ⟨o1, lS ws⟩, some ⟨false, lS vs⟩, some ⟨true, lS f⟩, none], cnt, [o1, o2]⟩) (v_slot rfl) rfl rfl) rfl em
    rw [List.nil_append, odd_map] at e3
    have qn : dNeP (lS (odd f)) (lS []) = some ⟨false, .bl (!same f)⟩ := by
      have t1 : ∀ x ∈ odd f, Tx x := fun x hx => hp.tx (List.mem_filter.mp hx).1
      have t2 : ∀ x ∈ ([] : List Str), Tx x := fun x hx => by cases hx
      rw [dNe_lS t1 t2, odd_nil]
    have e7 : mTest (m2 (mLC (mSrc (mSlot 2)) (setSl 3) (mTest (m2 (ln (mSlot 3)) (ln (first0 (mSlot 2))) (pure2 dNeP))) (mSlot 3) [3]) (mList mNil) (pure2 dNeP)) (⟨[some ⟨o1, lS ws⟩, some ⟨false, lS vs⟩, some ⟨true, lS f⟩, none], cnt, [o1, o2]⟩ : Sta) =
        .ok (!same f) ⟨[some ⟨o1, lS ws⟩, some ⟨false, lS vs⟩, some ⟨false, lS f⟩, none], cnt, [o1, o2]⟩ :=
      v_test (v_op e3 (v_lst v_nil rfl (Nat.zero_le _)) rfl rfl qn) rfl
    have f6 : fits f = (same f && !decide ((36 : Int) < (K02.fst f).length * f.length)) := by
      unfold fits
      rw [decide_eq_true (by omega : (f.length : Int) ≤ 6)]
      rfl
    by_cases sm : same f = true
    · have lg : (f.length : Int).natAbs.log2 + ((K02.fst f).length : Int).natAbs.log2 < 1000000 := by
        have h1 : ((K02.fst f).length : Int).natAbs.log2 < 10 := log2_lt (by omega) (by omega) (by decide)
        have h2 : (f.length : Int).natAbs.log2 < 10 := log2_lt (by omega) (by omega) (by decide)
        omega
      have t8 : mTest (m2 (mul (ln (mSlot 2)) (ln (first0 (mSlot 2)))) (n 36) (pure2 dLe)) (⟨[some ⟨o1, lS ws⟩, some ⟨false, lS vs⟩, some ⟨false, lS f⟩, none], cnt, [o1, o2]⟩ : Sta) = .ok (decide ((f.length : Int) * (K02.fst f).length ≤ 36)) ⟨[some ⟨o1, lS ws⟩, some ⟨false, lS vs⟩, some ⟨false, lS f⟩, none], cnt, [o1, o2]⟩ :=
        v_test (v_op (v_op (v_blt (v_cons (v_slot rfl) v_nil) rfl dLen_lS) (v_blt (v_cons (v_op (v_slot rfl) v_val rfl rfl i0) v_nil) rfl (dLen_str (by omega))) rfl rfl (dMul_i lg)) v_val rfl rfl dLe_i) rfl
      have cm : (f.length : Int) * (K02.fst f).length = (K02.fst f).length * f.length := Int.mul_comm _ _
      by_cases small : (f.length : Int) * (K02.fst f).length ≤ 36
      · have z : dueD f = lS f := by
          unfold dueD
          rw [f6, sm, decide_eq_false (by omega)]
          rfl
        rw [z]
        exact fin (o4 := false) (s3 := none) (v_seq a1 (v_seq (v_ifF (v_orF e6 (decide_eq_false six) e7) (by rw [sm]; rfl) v_next) (v_seqR (v_ret (v_mifT t8 (decide_eq_true small) (v_slot rfl)) rfl))))
      · have z : dueD f = .non := by
          unfold dueD
          rw [f6, sm, decide_eq_true (by omega)]
          rfl
        rw [z]
        exact fin (o4 := false) (s3 := none) (v_seq a1 (v_seq (v_ifF (v_orF e6 (decide_eq_false six) e7) (by rw [sm]; rfl) v_next) (v_seqR (v_ret (v_mifF t8 (decide_eq_false small) v_val) rfl))))
    · have sm := Bool.eq_false_iff.mpr sm
      have z : dueD f = .non := by
        unfold dueD
        rw [f6, sm]
        rfl
      rw [z]
      exact fin (o4 := false) (s3 := none) (v_seq a1 (v_seqR (v_ifT (v_orF e6 (decide_eq_false six) e7) (by rw [sm]; rfl) (v_seqR (v_ret v_val rfl)))))
end Ov.K02


set_option Elab.async false
set_option linter.all false
set_option maxRecDepth 100000
set_option maxHeartbeats 4000000
namespace Ov.K02
open PySem PySem.Spec PyProof.Rows L2 Ov
/-! ### what repr shows of words is a text of small signs -/
abbrev Sm (x : Str) : Prop := ∀ c ∈ x.cps.toList, c < 128
theorem Sm.tx {x : Str} (h : Sm x) : Tx x := fun c hc => Nat.lt_trans (h c hc) (by decide)
theorem low_repr : ∀ c, c < 123 → 97 ≤ c → (∀ z ∈ Builtin.Str.reprChar 34 c, z < 128) ∧ ∀ z ∈ Builtin.Str.reprChar 39 c, z < 128 := by decide +kernel
theorem fold_small {q : Nat} : ∀ (l : List Nat) (acc : Array Nat), (∀ c ∈ l, ∀ z ∈ Builtin.Str.reprChar q c, z < 128) → (∀ z ∈ acc.toList, z < 128) → ∀ z ∈ (l.foldl (fun out c => out ++ (Builtin.Str.reprChar q c).toArray) acc).toList, z < 128
  | [], acc, _, h => h
  | c :: r, acc, hl, h => by
    rw [List.foldl_cons]
    refine fold_small r _ (fun d hd => hl d (List.mem_cons_of_mem _ hd)) fun z hz => ?_
    rw [Array.toList_append] at hz
    rcases List.mem_append.mp hz with hz | hz
    · exact h z hz
    · exact hl c (List.mem_cons_self ..) z (by simpa using hz)
theorem repr_small {x : Str} (h : ∀ c ∈ x.cps.toList, Low c) : Sm (reprText x) := by
  have hq : reprQuote x = 34 ∨ reprQuote x = 39 := by
    unfold reprQuote
    split
    · exact .inl rfl
    · exact .inr rfl
  have hc : ∀ c ∈ x.cps.toList, ∀ z ∈ Builtin.Str.reprChar (reprQuote x) c, z < 128 := fun c hc => by
    obtain ⟨h1, h2⟩ := h c hc
    have z := low_repr c (by omega) h1
    rcases hq with e | e
    · rw [e]; exact z.1
    · rw [e]; exact z.2
  have q1 : reprQuote x < 128 := by rcases hq with e | e <;> rw [e] <;> decide
  intro c hm
  unfold reprText at hm
  rw [Array.toList_push, ← Array.foldl_toList] at hm
  rcases List.mem_append.mp hm with hm | hm
  · refine fold_small _ _ hc (fun z hz => ?_) c hm
    have : z = reprQuote x := by simpa using hz
    rw [this]
    exact q1
  · rw [List.mem_singleton.mp hm]
    exact q1
theorem app_small {x y : Str} (h : Sm x) (k : Sm y) : Sm (x ++ y) := fun c hc => by
  have e : (x ++ y).cps.toList = x.cps.toList ++ y.cps.toList := TL.tl_append x y
  rw [e] at hc
  exact (List.mem_append.mp hc).elim (h c) (k c)
theorem join_small {y : Str} (hy : Sm y) : ∀ {ps : List Str}, (∀ p ∈ ps, Sm p) → Sm (Str.join y ps)
  | [], _ => fun c hc => by
    have e : (Str.join y []).cps.toList = [] := TL.tl_join y []
    rw [e] at hc
    cases hc
  | [p], h => by
    show Sm p
    exact h p (List.mem_cons_self ..)
  | p :: z :: r, h => by
    show Sm (p ++ y ++ Str.join y (z :: r))
    exact app_small (app_small (h p (List.mem_cons_self ..)) hy) (join_small hy fun q hq => h q (List.mem_cons_of_mem _ hq))
theorem shown_small {ws : List Str} (h : ∀ x ∈ ws, ∀ c ∈ x.cps.toList, Low c) : Sm (PyData.list (ws.map .str)).shown := by
  rw [PyData.shown_list, PyData.shownAll_strs]
  refine app_small (app_small (by decide +kernel) (join_small (by decide +kernel) fun p hp => ?_)) (by decide +kernel)
  obtain ⟨x, hx, rfl⟩ := List.mem_map.mp hp
  exact repr_small (h x hx)
theorem none_small : Sm (PyData.none).shown := by
  rw [PyData.shown_none]
  decide +kernel
theorem due_repr {f : List Str} (h : Wds f) : ∃ t, dRepr (dueD f) = some ⟨false, .str t⟩ ∧ Tx t := by
  unfold dueD
  split
  · refine ⟨_, dRepr_lS (n := 8) (fun x hx => ⟨h.tx hx, (h.len hx).2⟩) (by have := h.few; have e := sizeLine_eq; omega), (shown_small fun x hx => ?_).tx⟩
    obtain ⟨w, _, _, hw⟩ := h.all x hx
    exact hw.low
  · exact ⟨_, dRepr_non, none_small.tx⟩
end Ov.K02


set_option Elab.async false
set_option linter.all false
set_option maxRecDepth 100000
set_option maxHeartbeats 4000000
namespace Ov.K02
open PySem PySem.Spec PyProof.Rows L2 Ov
/-! ### words put together: what fits -/
theorem len_sub {α : Type} [DecidableEq α] : ∀ {l m : List α}, l.Nodup → (∀ x ∈ l, x ∈ m) → l.length ≤ m.length
  | [], m, _, _ => Nat.zero_le _
  | x :: l, m, n, h => by
    have hx := h x (List.mem_cons_self ..)
    have z := len_sub (l := l) (m := m.erase x) (List.nodup_cons.mp n).2 fun y hy => by
      have ne : y ≠ x := fun e => (List.nodup_cons.mp n).1 (e ▸ hy)
      exact (List.mem_erase_of_ne ne).mpr (h y (List.mem_cons_of_mem _ hy))
    rw [List.length_erase_of_mem hx] at z
    have p := List.length_pos_of_mem hx
    rw [List.length_cons]
    omega
theorem Good.wds {w : Nat} {ws : List Str} (h : Good w ws) : Wds ws := ⟨h.ne, h.one, by have := h.six; omega, fun x hx => ⟨w, h.w0, h.w1, h.all x hx⟩⟩
theorem fst_mem {ws : List Str} (h : Wds ws) : fst ws ∈ ws := by
  obtain ⟨r, hr⟩ := h.fst
  rw [hr]
  exact List.mem_cons_self ..
theorem same_iff {ws : List Str} : same ws = true ↔ ∀ x ∈ ws, x.length = (fst ws).length := by
  unfold same
  rw [List.all_eq_true]
  exact ⟨fun h x hx => by have := of_decide_eq_true (h x hx); omega, fun h x hx => decide_eq_true (by rw [h x hx])⟩
theorem fits_iff {ws : List Str} : fits ws = true ↔ ws.length ≤ 6 ∧ (∀ x ∈ ws, x.length = (fst ws).length) ∧ (fst ws).length * ws.length ≤ 36 := by
  unfold fits
  rw [Bool.and_eq_true, Bool.and_eq_true, same_iff, decide_eq_true_eq, Bool.not_eq_true', decide_eq_false_iff_not]
  have e : (((fst ws).length * ws.length : Nat) : Int) = ((fst ws).length : Int) * (ws.length : Int) := Int.natCast_mul _ _
  constructor
  · rintro ⟨⟨h1, h2⟩, h3⟩
    exact ⟨by omega, h2, by omega⟩
  · rintro ⟨h1, h2, h3⟩
    exact ⟨⟨by omega, h2⟩, by omega⟩
theorem Good.fits {w : Nat} {ws : List Str} (h : Good w ws) : fits ws = true := by
  have l : ∀ x ∈ ws, x.length = w := fun x hx => (h.all x hx).len
  have f := l _ (fst_mem h.wds)
  rw [fits_iff]
  exact ⟨h.six, fun x hx => by rw [l x hx, f], by rw [f]; exact h.most⟩
theorem more_nil {ws vs : List Str} (h : ∀ x ∈ vs, x ∈ ws) : more ws vs = [] := by
  unfold more
  rw [List.filter_eq_nil_iff]
  intro x hx
  rw [decide_eq_true (h x hx)]
  exact Bool.false_ne_true
theorem plus_in {ws vs : List Str} (h : ∀ x ∈ vs, x ∈ ws) : plusW ws vs = ws := by
  unfold plusW
  rw [more_nil h, List.append_nil]
theorem mem_plus {ws vs : List Str} {x : Str} : x ∈ plusW ws vs ↔ x ∈ ws ∨ x ∈ vs := by
  unfold plusW more
  rw [List.mem_append, List.mem_filter]
  by_cases h : x ∈ ws
  · exact ⟨fun _ => .inl h, fun _ => .inl h⟩
  · exact ⟨fun z => z.imp id (·.1), fun z => z.imp id fun k => ⟨k, by rw [decide_eq_false h]; rfl⟩⟩
/-- the other way round, the same words -/
theorem fits_same {f g : List Str} (hf : Wds f) (hg : Wds g) (h : ∀ x, x ∈ g ↔ x ∈ f) (k : fits f = true) : fits g = true := by
  have e : g.length = f.length := Nat.le_antisymm (len_sub hg.one fun x hx => (h x).mp hx) (len_sub hf.one fun x hx => (h x).mpr hx)
  rw [fits_iff] at k ⊢
  obtain ⟨k1, k2, k3⟩ := k
  have z := k2 _ ((h _).mp (fst_mem hg))
  exact ⟨by omega, fun x hx => by rw [k2 x ((h x).mp hx), z], by rw [z, e]; exact k3⟩
end Ov.K02


set_option Elab.async false
set_option linter.all false
set_option maxRecDepth 100000
set_option maxHeartbeats 4000000
namespace Ov.K02
open PySem PySem.Spec PyProof.Rows L2 Ov
section
variable {S S1 S2 : Sta} {i j k1 k2 k : Nat} {o o1 o2 : Bool} {ws vs : List Str} {m : M Opn} {ms : M (List Opn)} {os : List Opn} {ds : List D} {is : List Nat}
theorem v_par (h : ms S = .ok os S1) (e : os.mapM (curD S1) = some ds) (k : stores is ds (frzL S1 os) = some S2) : sPar is ms S = .nx S2 := by
  unfold sPar
  rw [h]
  dsimp only
  rw [e]
  dsimp only
  rw [k]
theorem v_ofS (g : S.sl[i]? = some (some ⟨o, lS ws⟩)) (h : Wds ws) (hf : fits ws = true) : ∃ o2, ofS (mSlot i) S = .ok (.v ⟨true, stD S.cnt ws⟩) { S with sl := S.sl.set i (some ⟨o2, lS ws⟩), cnt := S.cnt + 1 } := by
  obtain ⟨o2, e⟩ := of_ok (o := o) (cnt := S.cnt) h hf
  have mp : [Opn.v ⟨false, .cls "Stamps"⟩, .s i].mapM (curC S) = some [⟨false, .cls "Stamps"⟩, ⟨o, lS ws⟩] := by
    have z1 : curC S (.v ⟨false, .cls "Stamps"⟩) = some ⟨false, .cls "Stamps"⟩ := rfl
    have z2 : curC S (.s i) = some ⟨o, lS ws⟩ := by
      show S.sl[i]?.join = _
      rw [g]
      rfl
    simp [z1, z2]
  have hd : dist [Opn.v ⟨false, .cls "Stamps"⟩, .s i] [⟨false, .cls "Stamps"⟩, ⟨o, lS ws⟩] = true := by cases o <;> rfl
  cases o
  · refine ⟨false, v_bind (v_cons (v_slot g) v_nil) ((v_call mp hd e).trans ?_)⟩
    rw [set_same g]
    rfl
  · exact ⟨o2, v_bind (v_cons (v_slot g) v_nil) ((v_call mp hd e).trans rfl)⟩
theorem v_dueS (g1 : S.sl[i]? = some (some ⟨o1, lS ws⟩)) (g2 : S.sl[j]? = some (some ⟨o2, lS vs⟩)) (ij : i ≠ j) (h : Wds ws) (k : Wds vs) (hl : ws.length + vs.length ≤ 20) :
    ∃ o4, cDue (mSlot i) (mSlot j) S = .ok (.v ⟨false, dueD (plusW ws vs)⟩) { S with sl := S.sl.set j (some ⟨o4, lS vs⟩) } := by
  obtain ⟨o3, e⟩ := due_ok (o1 := o1) (o2 := o2) (cnt := S.cnt) h k hl
  have hd : dist [.s i, .s j] [⟨o1, lS ws⟩, ⟨o2, lS vs⟩] = true := by
    have z : (j == i) = false := by simpa using Ne.symm ij
    cases o1 <;> cases o2 <;> simp [dist, isS, z]
  cases o2
  · refine ⟨false, v_bind (v_cons (v_slot g1) (v_cons (v_slot g2) v_nil)) ((v_call (map2 g1 g2) hd e).trans ?_)⟩
    rw [set_same g2]
    cases o1
    · rfl
    · show Res.ok _ { S with sl := S.sl.set i (some ⟨true, lS ws⟩) } = _
      rw [set_same g1]
  · refine ⟨o3, v_bind (v_cons (v_slot g1) (v_cons (v_slot g2) v_nil)) ((v_call (map2 g1 g2) hd e).trans ?_)⟩
    cases o1
    · rfl
    · show Res.ok _ { S with sl := (S.sl.set i (some ⟨true, lS ws⟩)).set j (some ⟨o3, lS vs⟩) } = _
      rw [set_same g1]
theorem v_sumS (g1 : S.sl[i]? = some (some ⟨false, stD k1 ws⟩)) (g2 : S.sl[j]? = some (some ⟨false, stD k2 vs⟩)) (h : Wds ws) (k : Wds vs) (hl : ws.length + vs.length ≤ 20) :
    ∃ cnt', cSum (mSlot i) (mSlot j) S = .ok (.v (sumC (plusW ws vs))) { S with cnt := cnt' } ∧ S.cnt ≤ cnt' := by
  obtain ⟨cnt', e, le⟩ := sum_ok (o1 := false) (o2 := false) (k1 := k1) (k2 := k2) (cnt := S.cnt) h k hl
  exact ⟨cnt', v_bind (v_cons (v_slot g1) (v_cons (v_slot g2) v_nil)) (v_callS2 g1 g2 rfl e), le⟩
end
theorem sumC_d {f : List Str} : (sumC f).d = dueD f := by
  unfold sumC dueD
  split <;> rfl
theorem isi_st {k : Nat} {f : List Str} : two (dIsiOwn "Stamps" stTest) [stD k f, .cls "Stamps"] = some ⟨false, .bl true⟩ := by
  simp [two, dIsiOwn, dIsi, tagOf, stTest]
abbrev R7 (p1 p2 : Bool) (F G : List Str) (c c2 : Nat) (du : D) (x5 x6 : Option Cell) (cnt : Nat) (o1 o2 : Bool) : Sta := ⟨[some ⟨p1, lS F⟩, some ⟨p2, lS G⟩, some ⟨false, stD c F⟩, some ⟨false, stD c2 G⟩, some ⟨false, du⟩, x5, x6], cnt, [o1, o2]⟩
theorem right_ok {w v : Nat} {F G : List Str} {o1 o2 : Bool} {cnt : Nat} (hF : Good w F) (hG : Good v G) : ∃ o3 o4 cnt', bodyF 2 5 mRight [⟨o1, lS F⟩, ⟨o2, lS G⟩] cnt = .ok ⟨false, .bl true⟩ [⟨o3, lS F⟩, ⟨o4, lS G⟩] cnt' := by
  have kF := hF.wds
  have kG := hG.wds
  have sF := hF.six
  have sG := hG.six
  have sz := size100
  have hl : F.length + G.length ≤ 20 := by omega
  have fin : ∀ {p1 p2 : Bool} {r : List (Option Cell)} {cnt' : Nat}, mRight (entry [⟨o1, lS F⟩, ⟨o2, lS G⟩] 5 cnt) = .rt ⟨false, .bl true⟩ ⟨some ⟨p1, lS F⟩ :: some ⟨p2, lS G⟩ :: r, cnt', [o1, o2]⟩ → ∃ o3 o4 cnt', bodyF 2 5 mRight [⟨o1, lS F⟩, ⟨o2, lS G⟩] cnt = .ok ⟨false, .bl true⟩ [⟨o3, lS F⟩, ⟨o4, lS G⟩] cnt' := by
    intro p1 p2 r cnt' run
    cases o1 <;> cases o2 <;> exact ⟨_, _, _, v_body rfl run rfl rfl⟩
  obtain ⟨p1, e1⟩ := v_ofS (S := entry [⟨o1, lS F⟩, ⟨o2, lS G⟩] 5 cnt) (i := 0) rfl kF hF.fits
  obtain ⟨p2, e2⟩ := v_ofS (S := ⟨[some ⟨p1, lS F⟩, some ⟨o2, lS G⟩, none, none, none, none, none], cnt + 1, [o1, o2]⟩) (i := 1) rfl kG hG.fits
  obtain ⟨p3, e3⟩ := v_dueS (S := ⟨[some ⟨p1, lS F⟩, some ⟨p2, lS G⟩, none, none, none, none, none], cnt + 2, [o1, o2]⟩) (i := 0) (j := 1) rfl rfl (by decide) kF kG hl
  obtain ⟨f, hFG⟩ : ∃ f, plusW F G = f := ⟨_, rfl⟩
  have kf := plus_wds kF kG hl
  have memf : ∀ x, x ∈ f ↔ x ∈ F ∨ x ∈ G := fun x => by rw [← hFG]; exact mem_plus
  rw [hFG] at e3 kf
  have par : sPar [2, 3, 4] (mCons (ofS (mSlot 0)) (mCons (ofS (mSlot 1)) (mCons (cDue (mSlot 0) (mSlot 1)) mNil))) (entry [⟨o1, lS F⟩, ⟨o2, lS G⟩] 5 cnt) = .nx (R7 p1 p3 F G cnt (cnt + 1) (dueD f) none none (cnt + 2) o1 o2) :=
    v_par (v_cons e1 (v_cons e2 (v_cons e3 v_nil))) rfl rfl
  obtain ⟨t, et, tt⟩ := due_repr kf
  obtain ⟨c3, e4, le⟩ := v_sumS (S := R7 p1 p3 F G cnt (cnt + 1) (dueD f) none none (cnt + 2) o1 o2) (i := 2) (j := 3) rfl rfl kF kG hl
  rw [hFG] at e4
  have et1 : one dRepr [(sumC f).d] = some ⟨false, .str t⟩ := by rw [sumC_d]; exact et
  have b1 : mTest (ne2 (rep (cSum (mSlot 2) (mSlot 3))) (rep (mSlot 4))) (R7 p1 p3 F G cnt (cnt + 1) (dueD f) none none (cnt + 2) o1 o2) = .ok (!decide (t = t)) (R7 p1 p3 F G cnt (cnt + 1) (dueD f) none none c3 o1 o2) :=
    v_test (v_op (v_blt (v_cons e4 v_nil) rfl et1) (v_blt (v_cons (v_slot rfl) v_nil) rfl et) rfl rfl (dNe_str tt tt)) rfl
  have b2 : mTest (ne2 (wds (mSlot 2)) (mSlot 0)) (R7 p1 p3 F G cnt (cnt + 1) (dueD f) none none c3 o1 o2) = .ok (!decide (F = F)) (R7 p1 p3 F G cnt (cnt + 1) (dueD f) none none c3 o1 o2) :=
    v_test (v_op (v_wdsS (k := cnt) (o1 := false) rfl) (v_slot rfl) rfl rfl (dNe_lS (fun x hx => kF.tx hx) fun x hx => kF.tx hx)) rfl
  have b3 : mTest (ne2 (wds (mSlot 3)) (mSlot 1)) (R7 p1 p3 F G cnt (cnt + 1) (dueD f) none none c3 o1 o2) = .ok (!decide (G = G)) (R7 p1 p3 F G cnt (cnt + 1) (dueD f) none none c3 o1 o2) :=
    v_test (v_op (v_wdsS (k := cnt + 1) (o1 := false) rfl) (v_slot rfl) rfl rfl (dNe_lS (fun x hx => kG.tx hx) fun x hx => kG.tx hx)) rfl
  have no : ∀ {α : Type} [DecidableEq α] (x : α), (!decide (x = x)) = false := fun x => by rw [decide_eq_true rfl]; rfl
  have b := v_orF b1 (no t) (v_orF b2 (no F) b3)
  cases hf : fits f with
  | false =>
    have du : dueD f = .non := by
      unfold dueD
      rw [hf]
      rfl
    rw [du] at b par
    exact fin (v_seq par (v_seq (v_ifF b (no G) v_next) (v_seqR (v_ifT (v_test (v_op (v_slot rfl) v_val rfl rfl rfl) rfl) rfl (v_seqR (v_ret v_val rfl))))))
  | true =>
    have du : dueD f = lS f := by
      unfold dueD
      rw [hf]
      rfl
    rw [du] at b par
    obtain ⟨f6, f1, f36⟩ := fits_iff.mp hf
    obtain ⟨r, hr⟩ := kf.fst
    have hl0 := kf.len (fst_mem kf)
    have i0 : dIx (lS f) (.int 0) = some ⟨false, .str (K02.fst f)⟩ := by rw [hr]; exact dIx0
    have e5 := v_plus (S := R7 p1 p3 F G cnt (cnt + 1) (lS f) none none c3 o1 o2) (i := 2) (j := 3) rfl rfl rfl kF kG hl (by rw [hFG]; exact hf)
    rw [hFG] at e5
    have s5 : sAsg (plus (mSlot 2) (mSlot 3)) (setSl 5) (R7 p1 p3 F G cnt (cnt + 1) (lS f) none none c3 o1 o2) = .nx (R7 p1 p3 F G cnt (cnt + 1) (lS f) (some ⟨true, stD c3 f⟩) none (c3 + 1) o1 o2) := v_asg e5 rfl rfl
    have q1 : mTest (mSame SC (mSlot 5) (mSlot 2)) (R7 p1 p3 F G cnt (cnt + 1) (lS f) (some ⟨true, stD c3 f⟩) none (c3 + 1) o1 o2) = .ok (decide (c3 = cnt)) (R7 p1 p3 F G cnt (cnt + 1) (lS f) (some ⟨true, stD c3 f⟩) none (c3 + 1) o1 o2) :=
      v_test (v_same (v_slot rfl) (v_slot rfl) rfl rfl inSC) rfl
    have q2 : mTest (ne2 (wid (mSlot 5)) (ln (first0 (mSlot 4)))) (R7 p1 p3 F G cnt (cnt + 1) (lS f) (some ⟨true, stD c3 f⟩) none (c3 + 1) o1 o2) = .ok (!decide (((K02.fst f).length : Int) = (K02.fst f).length)) (R7 p1 p3 F G cnt (cnt + 1) (lS f) (some ⟨true, stD c3 f⟩) none (c3 + 1) o1 o2) :=
      v_test (v_op (v_widS (k := c3) (o1 := true) rfl kf) (v_blt (v_cons (v_op (v_slot rfl) v_val rfl rfl i0) v_nil) rfl (dLen_str (by omega))) rfl rfl dNe_int) rfl
    have q3 : mTest (ne2 (lenS (mSlot 5)) (ln (mSlot 4))) (R7 p1 p3 F G cnt (cnt + 1) (lS f) (some ⟨true, stD c3 f⟩) none (c3 + 1) o1 o2) = .ok (!decide ((f.length : Int) = f.length)) (R7 p1 p3 F G cnt (cnt + 1) (lS f) (some ⟨true, stD c3 f⟩) none (c3 + 1) o1 o2) :=
      v_test (v_op (v_lenS (k := c3) (o1 := true) rfl kf) (v_blt (v_cons (v_slot rfl) v_nil) rfl dLen_lS) rfl rfl dNe_int) rfl
    have q4 : bNot (mTru (mCallB (two2 (mSlot 5) (mVal (.cls "Stamps"))) (two (dIsiOwn "Stamps" stTest)))) (R7 p1 p3 F G cnt (cnt + 1) (lS f) (some ⟨true, stD c3 f⟩) none (c3 + 1) o1 o2) = .ok false (R7 p1 p3 F G cnt (cnt + 1) (lS f) (some ⟨true, stD c3 f⟩) none (c3 + 1) o1 o2) :=
      v_not (v_tru (v_blt (v_cons (v_slot rfl) (v_cons v_val v_nil)) rfl isi_st) rfl rfl)
    have lt : cnt + 2 ≤ c3 := le
    have q := v_orF q1 (decide_eq_false (by omega)) (v_orF q2 (no _) (v_orF q3 (no _) q4))
    have pF : plusW f F = f := plus_in fun x hx => (memf x).mpr (.inl hx)
    have pFF : plusW F F = F := plus_in fun x hx => hx
    have kg := plus_wds kG kf (by omega)
    have hg : fits (plusW G f) = true := fits_same kf kg (fun x => by rw [mem_plus, memf]; exact ⟨fun z => z.elim .inr id, .inr⟩) hf
    have e6 := v_plus (S := R7 p1 p3 F G cnt (cnt + 1) (lS f) (some ⟨true, stD c3 f⟩) none (c3 + 1) o1 o2) (i := 5) (j := 2) rfl rfl rfl kf kF (by omega) (by rw [pF]; exact hf)
    rw [pF] at e6
    have s6 : sAsg (plus (mSlot 5) (mSlot 2)) (setSl 6) (R7 p1 p3 F G cnt (cnt + 1) (lS f) (some ⟨true, stD c3 f⟩) none (c3 + 1) o1 o2) = .nx (R7 p1 p3 F G cnt (cnt + 1) (lS f) (some ⟨true, stD c3 f⟩) (some ⟨true, stD (c3 + 1) f⟩) (c3 + 2) o1 o2) := v_asg e6 rfl rfl
    have y1 : eq2 (wds (mSlot 6)) (mSlot 4) (R7 p1 p3 F G cnt (cnt + 1) (lS f) (some ⟨true, stD c3 f⟩) (some ⟨true, stD (c3 + 1) f⟩) (c3 + 2) o1 o2) = .ok (.v ⟨false, .bl (decide (f = f))⟩) (R7 p1 p3 F G cnt (cnt + 1) (lS f) (some ⟨true, stD c3 f⟩) (some ⟨true, stD (c3 + 1) f⟩) (c3 + 2) o1 o2) :=
      v_op (v_wdsS (k := c3 + 1) (o1 := true) rfl) (v_slot rfl) rfl rfl (dEq_lS (fun x hx => kf.tx hx) fun x hx => kf.tx hx)
    have e7 := v_wdsV (v_plus (S := R7 p1 p3 F G cnt (cnt + 1) (lS f) (some ⟨true, stD c3 f⟩) (some ⟨true, stD (c3 + 1) f⟩) (c3 + 2) o1 o2) (i := 3) (j := 5) rfl rfl rfl kG kf (by omega) hg)
    obtain ⟨p4, e8⟩ := v_dueS (S := R7 p1 p3 F G cnt (cnt + 1) (lS f) (some ⟨true, stD c3 f⟩) (some ⟨true, stD (c3 + 1) f⟩) (c3 + 3) o1 o2) (i := 1) (j := 4) rfl rfl (by decide) kG kf (by omega)
    have dg : dueD (plusW G f) = lS (plusW G f) := by
      unfold dueD
      rw [hg]
      rfl
    rw [dg] at e8
    have y2 : eq2 (wds (plus (mSlot 3) (mSlot 5))) (cDue (mSlot 1) (mSlot 4)) (R7 p1 p3 F G cnt (cnt + 1) (lS f) (some ⟨true, stD c3 f⟩) (some ⟨true, stD (c3 + 1) f⟩) (c3 + 2) o1 o2) = .ok (.v ⟨false, .bl (decide (plusW G f = plusW G f))⟩) (⟨[some ⟨p1, lS F⟩, some ⟨p3, lS G⟩, some ⟨false, stD cnt F⟩, some ⟨false, stD (cnt + 1) G⟩, some ⟨p4, lS f⟩, some ⟨true, stD c3 f⟩, some ⟨true, stD (c3 + 1) f⟩], c3 + 3, [o1, o2]⟩ : Sta) :=
      v_op e7 e8 rfl rfl (dEq_lS (fun x hx => kg.tx hx) fun x hx => kg.tx hx)
    have e9 := v_plus (S := ⟨[some ⟨p1, lS F⟩, some ⟨p3, lS G⟩, some ⟨false, stD cnt F⟩, some ⟨false, stD (cnt + 1) G⟩, some ⟨p4, lS f⟩, some ⟨true, stD c3 f⟩, some ⟨true, stD (c3 + 1) f⟩], c3 + 3, [o1, o2]⟩) (i := 2) (j := 2) rfl rfl rfl kF kF (by omega) (by rw [pFF]; exact hF.fits)
    rw [pFF] at e9
    have y3 := v_op (F := dEqP) (v_wdsV e9) (v_slot (i := 0) rfl) rfl rfl (dEq_lS (fun x hx => kF.tx hx) fun x hx => kF.tx hx)
    have yes : ∀ {α : Type} [DecidableEq α] (x : α), decide (x = x) = true := fun x => decide_eq_true rfl
    rw [yes F] at y3
    exact fin (v_seq par (v_seq (v_ifF b (no G) v_next) (v_seq (v_ifF (v_test (v_op (v_slot rfl) v_val rfl rfl rfl) rfl) rfl v_next) (v_seq s5 (v_seq (v_ifF q rfl v_next) (v_seq s6
      (v_seqR (v_ret (v_andT y1 rfl (yes f) (v_andT y2 rfl (yes _) y3)) rfl))))))))
end Ov.K02


set_option Elab.async false
set_option linter.all false
set_option maxRecDepth 100000
set_option maxHeartbeats 4000000
namespace Ov.K02
open PySem PySem.Spec PyProof.Rows L2 Ov
/-! ### the law's own steps: texts -/
theorem fold_mem : ∀ (k : Nat) (a acc : Array Nat) (c : Nat), c ∈ ((List.replicate k a).foldl (· ++ ·) acc).toList → c ∈ acc.toList ∨ c ∈ a.toList
  | 0, a, acc, c, h => .inl h
  | k + 1, a, acc, c, h => by
    rw [List.replicate_succ, List.foldl_cons] at h
    rcases fold_mem k a (acc ++ a) c h with z | z
    · rw [Array.toList_append] at z
      exact List.mem_append.mp z
    · exact .inr z
theorem mul_mem {x : Str} {k : Int} {c : Nat} (h : c ∈ (Txt.mul x k).cps.toList) : c ∈ x.cps.toList := by
  unfold Txt.mul at h
  split at h
  · cases h
  · split at h
    · exact h
    · rcases fold_mem _ _ _ _ h with z | z
      · cases z
      · exact z
def cut8 (w : Int) (x : Str) : Str := Txt.slice (Txt.mul x 8) none (some w)
theorem mul8_len {x : Str} : (Txt.mul x 8).length = x.length * 8 := by
  have h := len_mul x 8
  rw [if_neg (by decide)] at h
  omega
theorem cut8_wd {w v : Nat} {x : Str} (w1 : w ≤ 8) (v0 : 1 ≤ v) (h : Wd v x) : Wd w (cut8 w x) := by
  have hl := h.len
  have e : Txt.mul x 8 = SX.S (Txt.mul x 8).cps.toList := (SX.S_tl _).symm
  have len : (Txt.mul x 8).cps.toList.length = x.length * 8 := by
    have z : (Txt.mul x 8).cps.toList.length = (Txt.mul x 8).length := by simp [Str.length]
    rw [z, mul8_len]
  unfold cut8
  rw [e, SX.slice_to (by omega)]
  refine ⟨?_, fun c hc => ?_⟩
  · rw [SX.S_len, List.length_take, len]
    omega
  · have z : c ∈ (Txt.mul x 8).cps.toList := List.mem_of_mem_take (by simpa using hc)
    exact h.low c (mul_mem z)
theorem dMul8 {x : Str} (h : x.length ≤ 8) : dMulS (.str x) (.int 8) = some ⟨false, .str (Txt.mul x 8)⟩ := by
  have z : mulOk x 8 = true := by
    unfold mulOk
    rw [decide_eq_true (by decide : (0 : Int) ≤ 8), decide_eq_true (by decide : (8 : Int) ≤ 4096), decide_eq_true (by omega)]
    rfl
  exact (if_pos z).trans rfl
theorem dCut8 {x : Str} {w : Int} (h : x.length ≤ 8) : dSl (.str (Txt.mul x 8)) none (some w) = some ⟨false, .str (cut8 w x)⟩ := by
  have sz := size100
  have l := mul8_len (x := x)
  exact (if_pos (by omega)).trans rfl
theorem dSl_lS {ws : List Str} {r : Int} (h : 0 ≤ r) : dSl (lS ws) none (some r) = some ⟨true, lS (ws.take r.toNat)⟩ := by
  have e : cutD (ws.map D.str) none (some r) = (ws.take r.toNat).map D.str := by
    unfold cutD
    have e2 : r = (r.toNat : Int) := by omega
    rw [e2, HT.sIx_nat, HT.sIx_none, List.drop_zero, Nat.sub_zero, ← List.map_take, List.length_map, Int.toNat_natCast]
    congr 1
    rcases Nat.le_total r.toNat ws.length with z | z
    · rw [Nat.min_eq_left z]
    · rw [Nat.min_eq_right z, List.take_of_length_le z, List.take_of_length_le (Nat.le_refl _)]
  show some (Cell.mk true (.lst (cutD (ws.map D.str) none (some r)))) = _
  rw [e]
/-! what stood before is left out -/
abbrev gNew (C : List Str) : D → Option D := fun d => match d with | .tup [.int i, .str x] => (if x ∈ C.take i.toNat then none else some (D.str x)) | _ => none
theorem new_list (C : List Str) : ∀ (suf pre : List Str), C = pre ++ suf → ∃ H : List Str, (numbered pre.length (suf.map D.str)).filterMap (gNew C) = H.map D.str ∧ H.Nodup ∧ (∀ x ∈ H, x ∈ suf ∧ x ∉ pre) ∧ (pre = [] → suf ≠ [] → H ≠ [])
  | [], pre, _ => ⟨[], rfl, List.nodup_nil, (fun _ h => by cases h), fun _ h => absurd rfl h⟩
  | x :: suf, pre, e => by
    obtain ⟨H, h1, h2, h3, h4⟩ := new_list C suf (pre ++ [x]) (by rw [e, List.append_assoc]; rfl)
    have hl : (pre ++ [x]).length = pre.length + 1 := by rw [List.length_append]; rfl
    rw [hl] at h1
    have tk : C.take ((pre.length : Nat) : Int).toNat = pre := by rw [e, Int.toNat_natCast, List.take_left]
    rw [List.map_cons]
    unfold numbered
    by_cases hx : x ∈ pre
    · refine ⟨H, ?_, h2, fun y hy => ⟨List.mem_cons_of_mem _ (h3 y hy).1, fun z => (h3 y hy).2 (List.mem_append_left _ z)⟩, fun z => ?_⟩
      · rw [List.filterMap_cons_none (by dsimp only [gNew]; rw [tk, if_pos hx]), h1]
      · subst z
        cases hx
    · refine ⟨x :: H, ?_, List.nodup_cons.mpr ⟨fun z => (h3 x z).2 (List.mem_append_right _ (List.mem_singleton.mpr rfl)), h2⟩, fun y hy => ?_, fun _ _ => List.cons_ne_nil _ _⟩
      · rw [List.filterMap_cons_some (b := D.str x) (by dsimp only [gNew]; rw [tk, if_neg hx]), h1]
        rfl
      · rcases List.mem_cons.mp hy with rfl | hy
        · exact ⟨List.mem_cons_self .., hx⟩
        · exact ⟨List.mem_cons_of_mem _ (h3 y hy).1, fun z => (h3 y hy).2 (List.mem_append_left _ z)⟩
end Ov.K02


set_option Elab.async false
set_option linter.all false
set_option maxRecDepth 100000
set_option maxHeartbeats 4000000
namespace Ov.K02
open PySem PySem.Spec PyProof.Rows L2 Ov
theorem call_inks {S : Sta} {a b c : Int} (g0 : S.sl[2]? = some (some (tp a b c))) (t : Tk b (c + 100)) (c0 : 0 ≤ c) :
    ∃ a' c' w ws, cInks (mSlot 2) (n 8) S = .ok (.v ⟨false, lS ws⟩) (mutS S 2 (T a' b c')) ∧ Good w ws ∧ c ≤ c' ∧ c' ≤ c + 60 := by
  obtain ⟨a', c', w, ws, e, h, h1, h2⟩ := inks (a := a) (most := 8) (cnt := S.cnt) t c0 (by omega) (by omega)
  refine ⟨a', c', w, ws, v_bind (v_cons (v_slot g0) (v_cons v_val v_nil)) ((v_call (cs := [tp a b c, ⟨false, .int 8⟩]) ?_ rfl e).trans rfl), h, h1, h2⟩
  have z : curC S (.s 2) = some (tp a b c) := by
    show S.sl[2]?.join = _
    rw [g0]
    rfl
  have z2 : curC S (.v ⟨false, .int 8⟩) = some ⟨false, .int 8⟩ := rfl
  simp [z, z2]
theorem num_mem : ∀ {C : List Str} {k : Nat} {d : D}, d ∈ numbered k (C.map D.str) → ∃ (i : Nat) (x : Str), x ∈ C ∧ d = .tup [.int i, .str x]
  | [], _, _, h => by cases h
  | x :: C, k, d, h => by
    rw [List.map_cons] at h
    unfold numbered at h
    rcases List.mem_cons.mp h with rfl | h
    · exact ⟨k, x, List.mem_cons_self .., rfl⟩
    · obtain ⟨i, y, hy, e⟩ := num_mem h
      exact ⟨i, y, List.mem_cons_of_mem _ hy, e⟩
theorem cut_map {w : Int} : ∀ {G : List Str}, ((G.map D.str).filterMap fun d => match d with | .str x => some (D.str (cut8 w x)) | _ => none) = (G.map (cut8 w)).map D.str
  | [] => rfl
  | x :: G => congrArg (fun z => D.str (cut8 w x) :: z) (cut_map (w := w) (G := G))
abbrev L10 (ns : List Int) (k : Int) (a b c : Int) (d : D) (x4 x5 x6 : Option Cell) (cnt : Nat) : Sta := ⟨[some ⟨false, .scr ns⟩, some ⟨false, .int k⟩, some (tp a b c), some ⟨false, d⟩, x4, x5, x6, none, none, none], cnt, [false]⟩
theorem change_ok {ns : List Int} {k a b c : Int} {d : D} {F G : List Str} {w v : Nat} {x6 : Option Cell} {cnt : Nat} (hF : Good w F) (hG : Good v G) (t : Tk b (c + 10)) (c0 : 0 ≤ c) :
    ∃ a' c' H, mChange (L10 ns k a b c d (some ⟨false, lS F⟩) (some ⟨false, lS G⟩) x6 cnt) = .nx (L10 ns k a' b c' d (some ⟨false, lS F⟩) (some ⟨true, lS H⟩) (some ⟨false, .int w⟩) cnt) ∧ Good w H ∧ c ≤ c' ∧ c' ≤ c + 1 := by
  have sz := size100
  have w0 := hF.w0
  have w1 := hF.w1
  have t1 := t.c1
  have sF := hF.six
  have sG := hG.six
  have fl : (fst F).length = w := (hF.all _ (fst_mem hF.wds)).len
  obtain ⟨r, hr⟩ := hF.wds.fst
  have i0 : dIx (lS F) (.int 0) = some ⟨false, .str (fst F)⟩ := by rw [hr]; exact dIx0
  have el0 : one dLen [.str (fst F)] = some ⟨false, .int w⟩ := by
    have z := dLen_str (x := fst F) (by omega)
    rw [fl] at z
    exact z
  have sa : sAsg (ln (first0 (mSlot 4))) (setSl 6) (L10 ns k a b c d (some ⟨false, lS F⟩) (some ⟨false, lS G⟩) x6 cnt) = .nx (L10 ns k a b c d (some ⟨false, lS F⟩) (some ⟨false, lS G⟩) (some ⟨false, .int w⟩) cnt) :=
    v_asg (v_blt (v_cons (v_op (v_slot rfl) v_val rfl rfl i0) v_nil) rfl el0) rfl rfl
  have lb := lc_flat (am := setSl 7) (t := M.ret true) (me := upTo (mulS (mSlot 7) (n 8)) (mSlot 6)) (vs := [7]) (S := L10 ns k a b c d (some ⟨false, lS F⟩) (some ⟨false, lS G⟩) (some ⟨false, .int w⟩) cnt)
    (g := fun d => match d with | .str x => some (D.str (cut8 w x)) | _ => none) (ds := G.map D.str) (acc := [])
    (fun d hd => by
      obtain ⟨x, hx, rfl⟩ := List.mem_map.mp hd
      have l8 := (hG.wds.len hx).2
      exact ⟨_, _, _, _, rfl, rfl, v_slTo (v_op (v_slot rfl) v_val rfl rfl (dMul8 l8)) (v_slot rfl) rfl rfl (dCut8 l8), rfl, rfl⟩)
    (by rw [List.length_map]; show 0 + _ ≤ _; omega)
  have eb := v_lc (v_src (ma := mSlot 5) (S := L10 ns k a b c d (some ⟨false, lS F⟩) (some ⟨false, lS G⟩) (some ⟨false, .int w⟩) cnt) (v_slot rfl) rfl rfl) rfl lb
  rw [List.nil_append, cut_map] at eb
  obtain ⟨r3, a', c', en, z0, z1, z2, z3⟩ := call_next (S := L10 ns k a b c d (some ⟨false, lS F⟩) (some ⟨false, lS G⟩) (some ⟨false, .int w⟩) cnt) (i := 2) (mb := n 3) (m := 3) rfl v_val rfl rfl ⟨t.b0, t.b1, c0, by omega⟩ (by omega) (by omega)
  obtain ⟨C, hC⟩ : ∃ C, G.map (cut8 w) ++ F.take r3.toNat = C := ⟨_, rfl⟩
  have lt := List.length_take_le r3.toNat F
  have ltF : (F.take r3.toNat).length ≤ F.length := List.length_take_le' _ _
  have lC : C.length ≤ 12 := by
    rw [← hC, List.length_append, List.length_map]
    omega
  have wC : ∀ x ∈ C, Wd w x := fun x hx => by
    rw [← hC] at hx
    rcases List.mem_append.mp hx with hx | hx
    · obtain ⟨y, hy, rfl⟩ := List.mem_map.mp hx
      exact cut8_wd w1 hG.w0 (hG.all y hy)
    · exact hF.all x (List.mem_of_mem_take hx)
  have neC : C ≠ [] := fun e => by
    rw [← hC] at e
    have z := (List.append_eq_nil_iff.mp e).1
    exact hG.ne (List.map_eq_nil_iff.mp z)
  have ed : dAdd (lS (G.map (cut8 w))) (lS (F.take r3.toNat)) = some ⟨true, lS C⟩ := by
    rw [← hC]
    exact dAdd_lS (by rw [List.length_map]; omega)
  have sb : sAsg (add (mLC (mSrc (mSlot 5)) (setSl 7) (M.ret true) (upTo (mulS (mSlot 7) (n 8)) (mSlot 6)) [7]) (upTo (mSlot 4) (cNext (mSlot 2) (n 3)))) (setSl 5) (L10 ns k a b c d (some ⟨false, lS F⟩) (some ⟨false, lS G⟩) (some ⟨false, .int w⟩) cnt) = .nx (L10 ns k a' b c' d (some ⟨false, lS F⟩) (some ⟨true, lS C⟩) (some ⟨false, .int w⟩) cnt) :=
    v_asg (v_op eb (v_slTo (v_slot rfl) en rfl rfl (dSl_lS z0)) rfl rfl ed) rfl rfl
  obtain ⟨H, h1, h2, h3, h4⟩ := new_list C C [] rfl
  have tC : ∀ x ∈ C, Tx x := fun x hx => (wC x hx).tx
  have lcc := lc_flat (am := asgTup (asgCons (setSl 8) (asgCons (setSl 7) asgNil)) 2) (t := mTest (m2 (mSlot 7) (upTo (mSlot 5) (mSlot 8)) (pure2 dNotIn))) (me := mSlot 7) (vs := [8, 7]) (S := L10 ns k a' b c' d (some ⟨false, lS F⟩) (some ⟨false, lS C⟩) (some ⟨false, .int w⟩) cnt)
    (g := gNew C) (ds := numbered 0 (C.map D.str)) (acc := [])
    (fun d hd => by
      obtain ⟨i, x, hx, rfl⟩ := num_mem hd
      have q := dNotIn_lS (x := x) (xs := C.take (i : Int).toNat) (tC x hx) fun y hy => tC y (List.mem_of_mem_take hy)
      dsimp only [gNew]
      by_cases hm : x ∈ C.take (i : Int).toNat
      · rw [if_pos hm]
        rw [decide_eq_true hm] at q
        exact ⟨_, _, rfl, v_test (v_op (v_slot rfl) (v_slTo (v_slot rfl) (v_slot rfl) rfl rfl (dSl_lS (by omega))) rfl rfl q) rfl, rfl⟩
      · rw [if_neg hm]
        rw [decide_eq_false hm] at q
        exact ⟨_, _, _, _, rfl, v_test (v_op (v_slot rfl) (v_slTo (v_slot rfl) (v_slot rfl) rfl rfl (dSl_lS (by omega))) rfl rfl q) rfl, v_slot rfl, rfl, rfl⟩)
    (by rw [numbered_len, List.length_map]; show 0 + _ ≤ _; omega)
  have h1' : (numbered 0 (C.map D.str)).filterMap (gNew C) = H.map D.str := h1
  have ec := v_lc (v_enum (ms := one1 (mSlot 5)) (S := L10 ns k a' b c' d (some ⟨false, lS F⟩) (some ⟨true, lS C⟩) (some ⟨false, .int w⟩) cnt) (v_cons (v_slot rfl) v_nil) rfl) rfl lcc
  rw [List.nil_append, h1'] at ec
  have sc : sAsg (mLC (mEnum (one1 (mSlot 5))) (asgTup (asgCons (setSl 8) (asgCons (setSl 7) asgNil)) 2) (mTest (m2 (mSlot 7) (upTo (mSlot 5) (mSlot 8)) (pure2 dNotIn))) (mSlot 7) [8, 7]) (setSl 5) (L10 ns k a' b c' d (some ⟨false, lS F⟩) (some ⟨true, lS C⟩) (some ⟨false, .int w⟩) cnt) = .nx (L10 ns k a' b c' d (some ⟨false, lS F⟩) (some ⟨true, lS H⟩) (some ⟨false, .int w⟩) cnt) :=
    v_asg ec rfl rfl
  have hdiv : dFdiv (.int 36) (.int w) = some ⟨false, .int (36 / (w : Int))⟩ := dFdiv_i (by omega) (Nat.lt_of_lt_of_le (log2_lt (k := 62) (by omega) (by omega) (by decide)) (by decide))
  obtain ⟨q0, q1, q2⟩ := width_cap (w := (w : Int)) (by omega) rfl (by omega)
  obtain ⟨q, hq⟩ : ∃ q : Int, (if 36 / (w : Int) < 6 then 36 / (w : Int) else 6) = q := ⟨_, rfl⟩
  rw [hq] at q0 q1 q2
  have em : two dMin [.int 6, .int (36 / (w : Int))] = some ⟨false, .int q⟩ := by
    show some (Cell.mk false (.int (if 36 / (w : Int) < 6 then 36 / (w : Int) else 6))) = _
    rw [hq]
  have sd : sAsg (upTo (mSlot 5) (mCallB (two2 (n 6) (fd (n 36) (mSlot 6))) (two dMin))) (setSl 5) (L10 ns k a' b c' d (some ⟨false, lS F⟩) (some ⟨true, lS H⟩) (some ⟨false, .int w⟩) cnt) = .nx (L10 ns k a' b c' d (some ⟨false, lS F⟩) (some ⟨true, lS (H.take q.toNat)⟩) (some ⟨false, .int w⟩) cnt) :=
    v_asg (v_slTo (v_slot rfl) (v_blt (v_cons v_val (v_cons (v_op v_val (v_slot rfl) rfl rfl hdiv) v_nil)) rfl em) rfl rfl (dSl_lS (by omega))) rfl rfl
  have hne : H ≠ [] := h4 rfl neC
  have pos : 1 ≤ H.length := List.length_pos_iff.mpr hne
  have lH : (H.take q.toNat).length ≤ q.toNat := List.length_take_le _ _
  have lH1 : 1 ≤ (H.take q.toNat).length := by rw [List.length_take]; omega
  refine ⟨a', c', H.take q.toNat, v_seq sa (v_seq sb (v_seq sc (v_seq sd v_next))), ⟨w0, w1, fun e => ?_, by omega, ?_, h2.sublist (List.take_sublist _ _), fun x hx => wC x (h3 x (List.mem_of_mem_take hx)).1⟩, z2, z3⟩
  · rw [e] at lH1
    cases lH1
  · have m1 : w * (H.take q.toNat).length ≤ w * q.toNat := Nat.mul_le_mul_left _ lH
    have m2 : ((w * q.toNat : Nat) : Int) = q * w := by
      rw [Int.natCast_mul, Int.toNat_of_nonneg (by omega), Int.mul_comm]
    omega
end Ov.K02


set_option Elab.async false
set_option linter.all false
set_option maxRecDepth 100000
set_option maxHeartbeats 4000000
namespace Ov.K02
open PySem PySem.Spec PyProof.Rows L2 Ov
theorem call_right {S : Sta} {i j : Nat} {o1 o2 : Bool} {w v : Nat} {F G : List Str} (g1 : S.sl[i]? = some (some ⟨o1, lS F⟩)) (g2 : S.sl[j]? = some (some ⟨o2, lS G⟩)) (ij : i ≠ j) (hF : Good w F) (hG : Good v G) :
    ∃ o3 o4 cnt', cRight (mSlot i) (mSlot j) S = .ok (.v ⟨false, .bl true⟩) { S with sl := (S.sl.set i (some ⟨o3, lS F⟩)).set j (some ⟨o4, lS G⟩), cnt := cnt' } := by
  obtain ⟨o3, o4, cnt', e⟩ := right_ok (o1 := o1) (o2 := o2) (cnt := S.cnt) hF hG
  have hd : dist [.s i, .s j] [⟨o1, lS F⟩, ⟨o2, lS G⟩] = true := by
    have z : (j == i) = false := by simpa using Ne.symm ij
    cases o1 <;> cases o2 <;> simp [dist, isS, z]
  have run := v_bind (m := two2 (mSlot i) (mSlot j)) (v_cons (v_slot g1) (v_cons (v_slot g2) v_nil)) (v_call (map2 g1 g2) hd e)
  cases o1 <;> cases o2
  · refine ⟨false, false, cnt', run.trans ?_⟩
    rw [set_same g1, set_same g2]
    rfl
  · refine ⟨false, o4, cnt', run.trans ?_⟩
    rw [set_same g1]
    rfl
  · refine ⟨o3, false, cnt', run.trans ?_⟩
    have z : (S.sl.set i (some ⟨o3, lS F⟩))[j]? = some (some ⟨false, lS G⟩) := by rw [List.getElem?_set_ne ij]; exact g2
    rw [set_same z]
    rfl
  · exact ⟨o3, o4, cnt', run⟩
theorem turn_ok {ns : List Int} {k a b c : Int} {d : D} {x4 x5 x6 : Option Cell} {cnt : Nat} (t : Tk b (c + 300)) (c0 : 0 ≤ c) :
    ∃ a' c' y4 y5 y6 cnt', mTurn (L10 ns k a b c d x4 x5 x6 cnt) = .nx (L10 ns k a' b c' d y4 y5 y6 cnt') ∧ c ≤ c' ∧ c' ≤ c + 130 := by
  have t1 := t.c1
  obtain ⟨a1, c1, w, F, e1, hF, p1, q1⟩ := call_inks (S := L10 ns k a b c d x4 x5 x6 cnt) rfl ⟨t.b0, t.b1, by omega, by omega⟩ c0
  obtain ⟨a2, c2, v, G, e2, hG, p2, q2⟩ := call_inks (S := L10 ns k a1 b c1 d x4 x5 x6 cnt) rfl ⟨t.b0, t.b1, by omega, by omega⟩ (by omega)
  have sa : sAsg (mTup (two2 (cInks (mSlot 2) (n 8)) (cInks (mSlot 2) (n 8)))) (asgTup (asgCons (setSl 4) (asgCons (setSl 5) asgNil)) 2) (L10 ns k a b c d x4 x5 x6 cnt) = .nx (L10 ns k a2 b c2 d (some ⟨false, lS F⟩) (some ⟨false, lS G⟩) x6 cnt) :=
    v_asg (v_tup (v_cons e1 (v_cons e2 v_nil)) rfl (by have := size100; show 2 ≤ sizeLine; omega)) rfl rfl
  obtain ⟨r, a3, c3, e3, z0, z1, p3, q3⟩ := call_next (S := L10 ns k a2 b c2 d (some ⟨false, lS F⟩) (some ⟨false, lS G⟩) x6 cnt) (i := 2) (mb := n 3) (m := 3) rfl v_val rfl rfl ⟨t.b0, t.b1, by omega, by omega⟩ (by omega) (by omega)
  have tst : mTest (m2 (cNext (mSlot 2) (n 3)) (n 0) (pure2 dGt)) (L10 ns k a2 b c2 d (some ⟨false, lS F⟩) (some ⟨false, lS G⟩) x6 cnt) = .ok (decide (0 < r)) (L10 ns k a3 b c3 d (some ⟨false, lS F⟩) (some ⟨false, lS G⟩) x6 cnt) :=
    v_test (v_op e3 v_val rfl rfl dGt_i) rfl
  have mid : ∃ a4 c4 v' H o5 y6, sIf (mTest (m2 (cNext (mSlot 2) (n 3)) (n 0) (pure2 dGt))) mChange sNext (L10 ns k a2 b c2 d (some ⟨false, lS F⟩) (some ⟨false, lS G⟩) x6 cnt) = .nx (L10 ns k a4 b c4 d (some ⟨false, lS F⟩) (some ⟨o5, lS H⟩) y6 cnt) ∧ Good v' H ∧ c3 ≤ c4 ∧ c4 ≤ c3 + 1 := by
    by_cases hr : 0 < r
    · obtain ⟨a4, c4, H, e4, hH, u1, u2⟩ := change_ok (ns := ns) (k := k) (a := a3) (b := b) (c := c3) (d := d) (x6 := x6) (cnt := cnt) hF hG ⟨t.b0, t.b1, by omega, by omega⟩ (by omega)
      exact ⟨a4, c4, w, H, true, _, v_ifT tst (decide_eq_true hr) e4, hH, u1, u2⟩
    · exact ⟨a3, c3, v, G, false, x6, v_ifF tst (decide_eq_false hr) v_next, hG, Int.le_refl _, by omega⟩
  obtain ⟨a4, c4, v', H, o5, y6, e4, hH, u1, u2⟩ := mid
  obtain ⟨o6, o7, n1, e5⟩ := call_right (S := L10 ns k a4 b c4 d (some ⟨false, lS F⟩) (some ⟨o5, lS H⟩) y6 cnt) (i := 4) (j := 5) rfl rfl (by decide) hF hH
  obtain ⟨o8, o9, n2, e6⟩ := call_right (S := L10 ns k a4 b c4 d (some ⟨o6, lS F⟩) (some ⟨o7, lS H⟩) y6 n1) (i := 5) (j := 4) rfl rfl (by decide) hH hF
  exact ⟨a4, c4, some ⟨o9, lS F⟩, some ⟨o8, lS H⟩, y6, n2, v_seq sa (v_seq e4 (v_seq (v_ifF (v_orF (v_not (v_tru e5 rfl rfl)) rfl (v_not (v_tru e6 rfl rfl))) rfl v_next) v_next)), by omega, by omega⟩
abbrev Lk (ns : List Int) (x1 x2 x3 x4 x5 x6 : Option Cell) (cnt : Nat) : Sta := ⟨[some ⟨false, .scr ns⟩, x1, x2, x3, x4, x5, x6, none, none, none], cnt, [false]⟩
theorem k_ok {ns : List Int} {k : Int} {x2 x3 x4 x5 x6 : Option Cell} {cnt : Nat} (k0 : 0 ≤ k) (k1 : k < 4) :
    ∃ y2 y3 y4 y5 y6 cnt', mK (Lk ns (some ⟨false, .int k⟩) x2 x3 x4 x5 x6 cnt) = .nx (Lk ns (some ⟨false, .int k⟩) y2 y3 y4 y5 y6 cnt') := by
  obtain ⟨a, b, e, b0, b1⟩ := tape_ok (ns := ns) (cnt := cnt) k0 k1
  have sa : sAsg (cTape (mSlot 0) (mSlot 1)) (setSl 2) (Lk ns (some ⟨false, .int k⟩) x2 x3 x4 x5 x6 cnt) = .nx (Lk ns (some ⟨false, .int k⟩) (some (tp a b 0)) x3 x4 x5 x6 cnt) :=
    v_asg (v_bind (v_cons (v_slot rfl) (v_cons (v_slot rfl) v_nil)) (v_call rfl rfl e)) rfl rfl
  have lr : ((List.range (12 : Int).toNat).map fun (k : Nat) => D.int (0 + k)).length = 12 := by rw [List.length_map, List.length_range]; rfl
  obtain ⟨S', el, a', c', y3, y4, y5, y6, n1, rfl, _, _⟩ := loop_all (am := setSl 3) (body := mTurn) (N := 12) (ds := (List.range (12 : Int).toNat).map fun (k : Nat) => D.int (0 + k)) (n := 0)
    (I := fun m S => ∃ a' c' y3 y4 y5 y6 n1, S = Lk ns (some ⟨false, .int k⟩) (some (tp a' b c')) y3 y4 y5 y6 n1 ∧ 0 ≤ c' ∧ c' ≤ 130 * m)
    (by
      intro d hd m S hm ⟨a', c', y3, y4, y5, y6, n1, hS, h0, h1⟩
      subst hS
      obtain ⟨a2, c2, z4, z5, z6, n2, e2, u1, u2⟩ := turn_ok (ns := ns) (k := k) (a := a') (b := b) (c := c') (d := d) (x4 := y4) (x5 := y5) (x6 := y6) (cnt := n1) ⟨b0, b1, by omega, by omega⟩ h0
      exact ⟨_, _, rfl, e2, a2, c2, some ⟨false, d⟩, z4, z5, z6, n2, rfl, by omega, by omega⟩)
    (Lk ns (some ⟨false, .int k⟩) (some (tp a b 0)) x3 x4 x5 x6 cnt) ⟨a, 0, x3, x4, x5, x6, cnt, rfl, Int.le_refl _, by omega⟩ (by rw [lr]; exact Nat.le_refl _)
  exact ⟨_, _, _, _, _, _, v_seq sa (v_seq (v_for (v_range1 (v_cons v_val v_nil) rfl (by decide)) el) v_next)⟩
end Ov.K02


set_option Elab.async false
set_option linter.all false
set_option maxRecDepth 100000
set_option maxHeartbeats 4000000
namespace Ov.K02
open PySem PySem.Spec PyProof.Rows L2 Ov
/-! ### the law's last rows: fixed words -/
def wa : Str := "aaaaaa"
def wb : Str := "bbbbbb"
def wc : Str := "cccccc"
def wd : Str := "dddddd"
def we : Str := "eeeeee"
def wf : Str := "ffffff"
def wg : Str := "gggggg"
def a1 : Str := "a"
def ab : Str := "ab"
theorem wd6 {x : Str} (h : x ∈ [wa, wb, wc, wd, we, wf, wg]) : Wd 6 x := by
  have l : ∀ x ∈ [wa, wb, wc, wd, we, wf, wg], x.length = 6 := by decide +kernel
  have m : ∀ x ∈ [wa, wb, wc, wd, we, wf, wg], ∀ c ∈ x.cps.toList, Low c := by decide +kernel
  exact ⟨l x h, m x h⟩
theorem six_ok {x : Str} {y : Str} (h : x.length ≤ 8) (e : Txt.mul x 6 = y) : dMulS (.str x) (.int 6) = some ⟨false, .str y⟩ := by
  have z : mulOk x 6 = true := by
    unfold mulOk
    rw [decide_eq_true (by decide : (0 : Int) ≤ 6), decide_eq_true (by decide : (6 : Int) ≤ 4096), decide_eq_true (by omega)]
    rfl
  exact (if_pos z).trans (by rw [e]; rfl)
theorem v_six {S : Sta} {s : String} {y : Str} (h : (Str.ofString s).length ≤ 8) (e : Txt.mul s 6 = y) : six s S = .ok (.v ⟨false, .str y⟩) S := v_op v_val v_val rfl rfl (six_ok h e)
theorem gA : Good 6 [wa, wb, wc] := ⟨by decide, by decide, by decide, by decide, by decide, by decide +kernel, fun x hx => wd6 (by revert x; decide +kernel)⟩
theorem gB : Good 6 [wd, we, wf] := ⟨by decide, by decide, by decide, by decide, by decide, by decide +kernel, fun x hx => wd6 (by revert x; decide +kernel)⟩
theorem gG : Good 6 [wg] := ⟨by decide, by decide, by decide, by decide, by decide, by decide +kernel, fun x hx => wd6 (by revert x; decide +kernel)⟩
theorem g1 : Good 1 [a1] := ⟨by decide, by decide, by decide, by decide, by decide, by decide +kernel, fun x hx => ⟨by revert x; decide +kernel, by revert x; decide +kernel⟩⟩
theorem g2 : Good 2 [ab] := ⟨by decide, by decide, by decide, by decide, by decide, by decide +kernel, fun x hx => ⟨by revert x; decide +kernel, by revert x; decide +kernel⟩⟩
theorem pAB : plusW [wa, wb, wc] [wd, we, wf] = [wa, wb, wc, wd, we, wf] := by decide +kernel
theorem gAB : Good 6 [wa, wb, wc, wd, we, wf] := ⟨by decide, by decide, by decide, by decide, by decide, by decide +kernel, fun x hx => wd6 (by revert x; decide +kernel)⟩
theorem no1 : fits (plusW [wa, wb, wc, wd, we, wf] [wg]) = false := by decide +kernel
theorem no2 : fits (plusW [a1] [ab]) = false := by decide +kernel
end Ov.K02


set_option Elab.async false
set_option linter.all false
set_option maxRecDepth 100000
set_option maxHeartbeats 4000000
namespace Ov.K02
open PySem PySem.Spec PyProof.Rows L2 Ov
abbrev L9 (ns : List Int) (x1 x2 x3 x4 x5 x6 : Option Cell) (d : D) (cnt : Nat) : Sta := ⟨[some ⟨false, .scr ns⟩, x1, x2, x3, x4, x5, x6, none, none, some ⟨true, d⟩], cnt, [false]⟩
theorem sumC_no {f : List Str} (h : fits f = false) : sumC f = ⟨false, .non⟩ := by
  unfold sumC
  rw [h]
  rfl
def mSome : M Opn := mList (mCons (ofS (mList (mCons (st "aaaaaa") (mCons (six "b") (mCons (six "c") mNil))))) (mCons (ofS (mList (mCons (six "d") (mCons (six "e") (mCons (six "f") mNil))))) (mCons (newS (six "g")) mNil)))
def mPl : M Opn := plus (m2 (mSlot 9) (n 0) (pure2 dIx)) (m2 (mSlot 9) (n 1) (pure2 dIx))
theorem list_a {S : Sta} : mList (mCons (st "aaaaaa") (mCons (six "b") (mCons (six "c") mNil))) S = .ok (.v ⟨true, lS [wa, wb, wc]⟩) S := by
  have e1 : st "aaaaaa" S = .ok (.v ⟨false, .str wa⟩) S := v_val
  have e2 : six "b" S = .ok (.v ⟨false, .str wb⟩) S := v_six (by decide +kernel) (by decide +kernel)
  have e3 : six "c" S = .ok (.v ⟨false, .str wc⟩) S := v_six (by decide +kernel) (by decide +kernel)
  exact v_lst (ds := [.str wa, .str wb, .str wc]) (v_cons e1 (v_cons e2 (v_cons e3 v_nil))) rfl (by have sz := size100; show 3 ≤ sizeLine; omega)
theorem list_d {S : Sta} : mList (mCons (six "d") (mCons (six "e") (mCons (six "f") mNil))) S = .ok (.v ⟨true, lS [wd, we, wf]⟩) S := by
  have e1 : six "d" S = .ok (.v ⟨false, .str wd⟩) S := v_six (by decide +kernel) (by decide +kernel)
  have e2 : six "e" S = .ok (.v ⟨false, .str we⟩) S := v_six (by decide +kernel) (by decide +kernel)
  have e3 : six "f" S = .ok (.v ⟨false, .str wf⟩) S := v_six (by decide +kernel) (by decide +kernel)
  exact v_lst (ds := [.str wd, .str we, .str wf]) (v_cons e1 (v_cons e2 (v_cons e3 v_nil))) rfl (by have sz := size100; show 3 ≤ sizeLine; omega)
theorem of_v {S : Sta} {m : M Opn} {ws : List Str} (hm : m S = .ok (.v ⟨true, lS ws⟩) S) (h : Wds ws) (hf : fits ws = true) : ofS m S = .ok (.v ⟨true, stD S.cnt ws⟩) { S with cnt := S.cnt + 1 } := by
  obtain ⟨o1, e1⟩ := of_ok (o := true) (cnt := S.cnt) h hf
  exact v_bind (v_cons hm v_nil) ((v_call (cs := [⟨false, .cls "Stamps"⟩, ⟨true, lS ws⟩]) rfl rfl e1).trans rfl)
theorem new_v {S : Sta} {m : M Opn} {x : Str} (hm : m S = .ok (.v ⟨false, .str x⟩) S) (h : Wds [x]) (hf : fits [x] = true) : newS m S = .ok (.v ⟨true, stD S.cnt [x]⟩) { S with cnt := S.cnt + 1 } := by
  have e : newF "Stamps" fInit [⟨false, .str x⟩] S.cnt = .ok ⟨true, stD S.cnt [x]⟩ [⟨false, .str x⟩] (S.cnt + 1) := new_ok h hf
  exact v_bind (v_cons hm v_nil) ((v_call (cs := [⟨false, .str x⟩]) rfl rfl e).trans rfl)
theorem some_ok {ns : List Int} {x1 x2 x3 x4 x5 x6 : Option Cell} {cnt : Nat} : sAsg mSome (setSl 9) (Lk ns x1 x2 x3 x4 x5 x6 cnt) = .nx (L9 ns x1 x2 x3 x4 x5 x6 (.lst [stD cnt [wa, wb, wc], stD (cnt + 1) [wd, we, wf], stD (cnt + 2) [wg]]) (cnt + 3)) := by
  have q1 := of_v (S := Lk ns x1 x2 x3 x4 x5 x6 cnt) list_a gA.wds gA.fits
  have q2 := of_v (S := Lk ns x1 x2 x3 x4 x5 x6 (cnt + 1)) list_d gB.wds gB.fits
  have q3 := new_v (S := Lk ns x1 x2 x3 x4 x5 x6 (cnt + 2)) (m := six "g") (x := wg) (v_six (by decide +kernel) (by decide +kernel)) gG.wds gG.fits
  have sz := size100
  have q : mSome (Lk ns x1 x2 x3 x4 x5 x6 cnt) = .ok (.v ⟨true, .lst [stD cnt [wa, wb, wc], stD (cnt + 1) [wd, we, wf], stD (cnt + 2) [wg]]⟩) (Lk ns x1 x2 x3 x4 x5 x6 (cnt + 3)) :=
    v_lst (ds := [stD cnt [wa, wb, wc], stD (cnt + 1) [wd, we, wf], stD (cnt + 2) [wg]]) (v_cons q1 (v_cons q2 (v_cons q3 v_nil))) rfl (by show 3 ≤ sizeLine; omega)
  exact v_asg q rfl rfl
theorem pl_ok {ns : List Int} {x1 x2 x3 x4 x5 x6 : Option Cell} {c k : Nat} : mPl (L9 ns x1 x2 x3 x4 x5 x6 (.lst [stD c [wa, wb, wc], stD (c + 1) [wd, we, wf], stD (c + 2) [wg]]) k) =
    .ok (.v ⟨true, stD k [wa, wb, wc, wd, we, wf]⟩) (L9 ns x1 x2 x3 x4 x5 x6 (.lst [stD c [wa, wb, wc], stD (c + 1) [wd, we, wf], stD (c + 2) [wg]]) (k + 1)) := by
  generalize hS : L9 ns x1 x2 x3 x4 x5 x6 (.lst [stD c [wa, wb, wc], stD (c + 1) [wd, we, wf], stD (c + 2) [wg]]) k = S
  have e := add_ok (k1 := c) (k2 := c + 1) (cnt := S.cnt) (o1 := false) (o2 := false) gA.wds gB.wds (by decide) (by rw [pAB]; exact gAB.fits)
  rw [pAB] at e
  have h1 : m2 (mSlot 9) (n 0) (pure2 dIx) S = .ok (.v ⟨false, stD c [wa, wb, wc]⟩) S := by subst hS; exact v_op (v_slot rfl) v_val rfl rfl rfl
  have h2 : m2 (mSlot 9) (n 1) (pure2 dIx) S = .ok (.v ⟨false, stD (c + 1) [wd, we, wf]⟩) S := by subst hS; exact v_op (v_slot rfl) v_val rfl rfl rfl
  have ec : callM fAdd [.v ⟨false, stD c [wa, wb, wc]⟩, .v ⟨false, stD (c + 1) [wd, we, wf]⟩] S = .ok (.v ⟨true, stD S.cnt [wa, wb, wc, wd, we, wf]⟩) { S with cnt := S.cnt + 1 } := (v_call (cs := [⟨false, stD c [wa, wb, wc]⟩, ⟨false, stD (c + 1) [wd, we, wf]⟩]) rfl rfl e).trans rfl
  have r := v_ownOp (n := c) (n2 := c + 1) (fs := [("held_words", lS [wa, wb, wc])]) (fs2 := [("held_words", lS [wd, we, wf])]) h1 h2 rfl rfl inSC ec
  subst hS
  exact r
theorem list_6 {S : Sta} : mList (mCons (st "aaaaaa") (mCons (six "b") (mCons (six "c") (mCons (six "d") (mCons (six "e") (mCons (six "f") mNil)))))) S = .ok (.v ⟨true, lS [wa, wb, wc, wd, we, wf]⟩) S := by
  have e1 : st "aaaaaa" S = .ok (.v ⟨false, .str wa⟩) S := v_val
  have e2 : six "b" S = .ok (.v ⟨false, .str wb⟩) S := v_six (by decide +kernel) (by decide +kernel)
  have e3 : six "c" S = .ok (.v ⟨false, .str wc⟩) S := v_six (by decide +kernel) (by decide +kernel)
  have e4 : six "d" S = .ok (.v ⟨false, .str wd⟩) S := v_six (by decide +kernel) (by decide +kernel)
  have e5 : six "e" S = .ok (.v ⟨false, .str we⟩) S := v_six (by decide +kernel) (by decide +kernel)
  have e6 : six "f" S = .ok (.v ⟨false, .str wf⟩) S := v_six (by decide +kernel) (by decide +kernel)
  exact v_lst (ds := [.str wa, .str wb, .str wc, .str wd, .str we, .str wf]) (v_cons e1 (v_cons e2 (v_cons e3 (v_cons e4 (v_cons e5 (v_cons e6 v_nil)))))) rfl (by have sz := size100; show 6 ≤ sizeLine; omega)
theorem sum_no {S S1 S2 : Sta} {x y : M Opn} {o1 o2 : Bool} {k1 k2 : Nat} {F G : List Str} (hx : x S = .ok (.v ⟨o1, stD k1 F⟩) S1) (hy : y S1 = .ok (.v ⟨o2, stD k2 G⟩) S2) (kF : Wds F) (kG : Wds G) (hl : F.length + G.length ≤ 20) (no : fits (plusW F G) = false) :
    ∃ c, m2 (cSum x y) (mVal .non) (pure2 dIsN) S = .ok (.v ⟨false, .bl true⟩) { S2 with cnt := c } := by
  obtain ⟨c, e, _⟩ := sum_ok (o1 := o1) (o2 := o2) (k1 := k1) (k2 := k2) (cnt := S2.cnt) kF kG hl
  rw [sumC_no no] at e
  have ec : callM (bodyF 2 0 mSum) [.v ⟨o1, stD k1 F⟩, .v ⟨o2, stD k2 G⟩] S2 = .ok (.v ⟨false, .non⟩) { S2 with cnt := c } := (v_call (cs := [⟨o1, stD k1 F⟩, ⟨o2, stD k2 G⟩]) rfl rfl e).trans rfl
  have es : cSum x y S = .ok (.v ⟨false, .non⟩) { S2 with cnt := c } := v_bind (v_cons hx (v_cons hy v_nil)) ec
  exact ⟨c, v_op es v_val rfl rfl rfl⟩
abbrev dS (c : Nat) : D := .lst [stD c [wa, wb, wc], stD (c + 1) [wd, we, wf], stD (c + 2) [wg]]
theorem tail_ok {ns : List Int} {x1 x2 x3 x4 x5 x6 : Option Cell} {c : Nat} : ∃ k, sSeq (sIf (mTest (ne2 (wds mPl) (mList (mCons (st "aaaaaa") (mCons (six "b") (mCons (six "c") (mCons (six "d") (mCons (six "e") (mCons (six "f") mNil))))))))) rF sNext)
    (sSeq (sRet (mAnd (m2 (cSum mPl (m2 (mSlot 9) (n 2) (pure2 dIx))) (mVal .non) (pure2 dIsN)) (m2 (cSum (newS (st "a")) (newS (st "ab"))) (mVal .non) (pure2 dIsN)))) sNext) (L9 ns x1 x2 x3 x4 x5 x6 (dS c) (c + 3)) = .rt ⟨false, .bl true⟩ (L9 ns x1 x2 x3 x4 x5 x6 (dS c) k) := by
  have tx : ∀ x ∈ [wa, wb, wc, wd, we, wf], Tx x := fun x hx => gAB.wds.tx hx
  have yes : (!decide ([wa, wb, wc, wd, we, wf] = [wa, wb, wc, wd, we, wf])) = false := by rw [decide_eq_true rfl]; rfl
  have w1 := v_wdsV (pl_ok (ns := ns) (x1 := x1) (x2 := x2) (x3 := x3) (x4 := x4) (x5 := x5) (x6 := x6) (c := c) (k := c + 3))
  have t1 := v_test (v_op (F := dNeP) w1 list_6 rfl rfl (dNe_lS tx tx)) rfl
  have i2 : m2 (mSlot 9) (n 2) (pure2 dIx) (L9 ns x1 x2 x3 x4 x5 x6 (dS c) (c + 5)) = .ok (.v ⟨false, stD (c + 2) [wg]⟩) (L9 ns x1 x2 x3 x4 x5 x6 (dS c) (c + 5)) := v_op (v_slot rfl) v_val rfl rfl rfl
  obtain ⟨c5, u1⟩ := sum_no (pl_ok (ns := ns) (x1 := x1) (x2 := x2) (x3 := x3) (x4 := x4) (x5 := x5) (x6 := x6) (c := c) (k := c + 4)) i2 gAB.wds gG.wds (by decide) no1
  have v1 := new_v (S := L9 ns x1 x2 x3 x4 x5 x6 (dS c) c5) (m := st "a") (x := a1) v_val g1.wds g1.fits
  have v2 := new_v (S := L9 ns x1 x2 x3 x4 x5 x6 (dS c) (c5 + 1)) (m := st "ab") (x := ab) v_val g2.wds g2.fits
  obtain ⟨c6, u2⟩ := sum_no v1 v2 g1.wds g2.wds (by decide) no2
  exact ⟨c6, v_seq (v_ifF t1 yes v_next) (v_seqR (v_ret (v_andT u1 rfl rfl u2) rfl))⟩
theorem law_true (ns : List Int) : ∃ fin cnt, bodyF 1 9 mLaw [⟨false, .scr ns⟩] 0 = .ok ⟨false, .bl true⟩ fin cnt := by
  obtain ⟨q, hq⟩ : ∃ q : Int, (if (if (ns.length : Int) < 4 then (ns.length : Int) else 4) > 1 then (if (ns.length : Int) < 4 then (ns.length : Int) else 4) else 1) = q := ⟨_, rfl⟩
  have q1 : 1 ≤ q ∧ q ≤ 4 := by rw [← hq]; split <;> split <;> omega
  obtain ⟨S', el, x1, x2, x3, x4, x5, x6, c, rfl⟩ := loop_all (am := setSl 1) (body := mK) (N := q.toNat) (ds := (List.range q.toNat).map fun (k : Nat) => D.int (0 + k)) (n := 0)
    (I := fun _ S => ∃ x1 x2 x3 x4 x5 x6 c, S = Lk ns x1 x2 x3 x4 x5 x6 c)
    (by
      intro d hd m S hm ⟨x1, x2, x3, x4, x5, x6, c, hS⟩
      subst hS
      obtain ⟨j, hj, rfl⟩ := List.mem_map.mp hd
      have hj := List.mem_range.mp hj
      obtain ⟨y2, y3, y4, y5, y6, c', e⟩ := k_ok (ns := ns) (k := 0 + (j : Int)) (x2 := x2) (x3 := x3) (x4 := x4) (x5 := x5) (x6 := x6) (cnt := c) (by omega) (by omega)
      exact ⟨_, _, rfl, e, _, _, _, _, _, _, _, rfl⟩)
    (Lk ns none none none none none none 0) ⟨_, _, _, _, _, _, _, rfl⟩ (by rw [List.length_map, List.length_range]; omega)
  have er : mRange1 (one1 (mCallB (two2 (n 1) (mCallB (two2 (n 4) (ln (mSlot 0))) (two dMin))) (two dMax))) (entry [⟨false, .scr ns⟩] 9 0) = .ok ((List.range q.toNat).map fun (k : Nat) => D.int (0 + k)) (Lk ns none none none none none none 0) := by
    rw [← hq]
    refine v_range1 (v_cons (v_blt (v_cons v_val (v_cons (v_blt (v_cons v_val (v_cons (v_blt (v_cons (v_slot rfl) v_nil) rfl rfl) v_nil)) rfl rfl) v_nil)) rfl rfl) v_nil) rfl ?_
    exact decide_eq_true (by rw [hq]; omega)
  obtain ⟨k, e⟩ := tail_ok (ns := ns) (x1 := x1) (x2 := x2) (x3 := x3) (x4 := x4) (x5 := x5) (x6 := x6) (c := c)
  exact ⟨_, _, v_body rfl (v_seq (v_for er el) (v_seq some_ok e)) rfl rfl⟩
end Ov.K02


set_option Elab.async false
set_option linter.all false
set_option maxRecDepth 100000
open PySem PySem.W PyProof.Rows
set_option maxHeartbeats 0 in
theorem PySem.Challenge.cw_overstamps_k02_stamps_added_holds : PySem.Challenge.rw_overstamps_k02_stamps_added.Holds := by
  w_on; o_law; k_head; (case hw => w_witness2)
  k_fill
  refine Ov.Fin.walk (l := PySem.Challenge.rw_overstamps_k02_stamps_added) (n := 63) (k := 10) (x := "script") (F := Ov.bodyF 1 9 Ov.K02.mLaw) rfl (by decide) rfl ⟨rfl, by decide, by decide⟩ (fun w h Y => PySem.W.kIn_of Y) ?facts ?math
  case facts =>
    intro w mg fa h KX G hmg
    refine' Ov.K02.all_mk KX G hmg ?aRow ?aWds0 ?aTape ?aNext ?aInks ?aDue ?aSum ?aRight ?aLaw ?aS ?aE ?iIn ?cOf ?rOf ?pW ?rW ?pI ?rI ?iLn ?iAd ?lRow ?cRowq ?kRow ?lWds0 ?cWds0q ?kWds0 ?lTape ?cTapeq ?kTape ?lNext ?cNextq ?kNext ?lInks ?cInksq ?kInks ?lDue ?cDueq ?kDue ?lSum ?cSumq ?kSum ?lRight ?cRightq ?kRight ?lLaw ?cLawq ?kLaw ?lInit ?cInitq ?kInit ?lOf ?cOfq ?kOf ?lWds ?cWdsq ?kWds ?lWid ?cWidq ?kWid ?lLen ?cLenq ?kLen ?lAdd ?cAddq ?kAdd ?rd ?ga ?mo ?fi ?mk ?fnI ?kS ?pg ?hd ?po ?sa ?nh ?gWds_ ?tWds ?gWid_ ?tWid ?sf ?fnA ?fnL ?mob ?eqS ?ha ?hn ?htk ?exc ?kE ?sE ?tE ?isE ?selfE ?gL ?gW ?gM ?z_len ?z_abs ?z_max ?z_min ?z_range ?z_enumerate ?z_all ?z_isinstance ?z_str ?z_list ?z_set ?z_repr
    (case aRow => k_is)
    (case aWds0 => k_is)
    (case aTape => k_is)
    (case aNext => k_is)
    (case aInks => k_is)
    (case aDue => k_is)
    (case aSum => k_is)
    (case aRight => k_is)
    (case aLaw => k_is)
    (case aS => k_is)
    (case aE => k_is)
    (case iIn => k_is)
    (case cOf => k_is)
    (case rOf => k_is)
    (case pW => k_is)
    (case rW => k_is)
    (case pI => k_is)
    (case rI => k_is)
    (case iLn => k_is)
    (case iAd => k_is)
    (case lRow => k_is)
    (case cRowq => k_is)
    (case kRow => k_is)
    (case lWds0 => k_is)
    (case cWds0q => k_is)
    (case kWds0 => k_is)
    (case lTape => k_is)
    (case cTapeq => k_is)
    (case kTape => k_is)
    (case lNext => k_is)
    (case cNextq => k_is)
    (case kNext => k_is)
    (case lInks => k_is)
    (case cInksq => k_is)
    (case kInks => k_is)
    (case lDue => k_is)
    (case cDueq => k_is)
    (case kDue => k_is)
    (case lSum => k_is)
    (case cSumq => k_is)
    (case kSum => k_is)
    (case lRight => k_is)
    (case cRightq => k_is)
    (case kRight => k_is)
    (case lLaw => k_is)
    (case cLawq => k_is)
    (case kLaw => k_is)
    (case lInit => k_is)
    (case cInitq => k_is)
    (case kInit => k_is)
    (case lOf => k_is)
    (case cOfq => k_is)
    (case kOf => k_is)
    (case lWds => k_is)
    (case cWdsq => k_is)
    (case kWds => k_is)
    (case lWid => k_is)
    (case cWidq => k_is)
    (case kWid => k_is)
    (case lLen => k_is)
    (case cLenq => k_is)
    (case kLen => k_is)
    (case lAdd => k_is)
    (case cAddq => k_is)
    (case kAdd => k_is)
    (case rd => k_is)
    (case ga => k_is)
    (case mo => k_is)
    (case fi => k_is)
    (case mk => k_is)
    (case fnI => k_is)
    (case kS => k_is)
    (case pg => k_is)
    (case hd => k_is)
    (case po => k_is)
    (case sa => k_is)
    (case nh => k_is)
    (case gWds_ => k_is)
    (case tWds => k_is)
    (case gWid_ => k_is)
    (case tWid => k_is)
    (case sf => k_is)
    (case fnA => k_is)
    (case fnL => k_is)
    (case mob => k_is)
    (case eqS => k_is)
    (case ha => k_is)
    (case hn => k_is)
    (case htk => k_is)
    (case exc => k_exc)
    (case kE => k_is)
    (case sE => k_is)
    (case tE => k_is)
    (case isE => k_is)
    (case selfE => k_is)
    (case gL => k_is)
    (case gW => k_is)
    (case gM => k_is)
    (case z_len => k_is)
    (case z_abs => k_is)
    (case z_max => k_is)
    (case z_min => k_is)
    (case z_range => k_is)
    (case z_enumerate => k_is)
    (case z_all => k_is)
    (case z_isinstance => k_is)
    (case z_str => k_is)
    (case z_list => k_is)
    (case z_set => k_is)
    (case z_repr => k_is)
  case math => exact fun ns _ => Ov.K02.law_true ns

